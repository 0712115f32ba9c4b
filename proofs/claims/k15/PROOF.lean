import PyProof.Rows.All
import Wide.All
import OpenK.AllK
import Wide.FinOn
import HandS.ForMost
import HandS.Wide
import HandS.TupAny
import HandS.TupMul
import HandS.Deep
import HandS.Flow
import KE.DataIsa
import KE.DataFind
import KE.DataMinMax
import KE.DataAny
import KE.DataCmp
import KE.SortData
import HandS.Conv
import KE.KIndexOf
import PyProof.ReprRoads
import HandS.IsInst
import HandS.Walk
import HandS.Zip
import KE.GoesZip
import KE.GoesMore
import KE.GoesEnum
import HandS.Ends
import HandS.TupLen
import HandS.ReCall
import KE.KDictZip
import HandS.Exc
import HandS.TupLe
import HandS.ExcInit
import KE.KExcSuper
import HandS.TryMany
import HandS.WordsExc
import HandS.ExcField
import HandS.TupSets
import HandS.SetFor
import HandS.Strs
import PySem.Challenge.RW_fittingdoors_k15_whole_turned
set_option Elab.async false
set_option linter.all false
set_option maxRecDepth 100000
/-! the value layer: plain functions over data, read off the hand layer's judgements -/
namespace VL
open PySem
open PySem.Spec
open L2

abbrev D := PyData
/-- the drawing machine's state: cells, great, spot -/
abbrev MS := List Int × List Int × Int
structure Exn where
  cls : Str
  fs : List (Str × D)
inductive Out (α : Type) where
  | ok (a : α) (m : MS)
  | exc (c : Exn) (m : MS)
  | bad
def M (α : Type) : Type := MS → Out α
def M.bd {α β : Type} (x : M α) (f : α → M β) : M β := fun m =>
  match x m with
  | .ok a m' => f a m'
  | .exc c m' => .exc c m'
  | .bad => .bad
instance : Monad M where
  pure a := fun m => .ok a m
  bind x f := M.bd x f
def M.no {α : Type} : M α := fun _ => .bad
def M.rs {α : Type} (c : Exn) : M α := fun m => .exc c m
theorem M.pure_run {α : Type} (a : α) (m : MS) : (pure a : M α) m = .ok a m := rfl
theorem M.bind_run {α β : Type} (x : M α) (f : α → M β) (m : MS) : (x >>= f) m = M.bd x f m := rfl
theorem M.ext {α : Type} {x y : M α} (h : ∀ m, x m = y m) : x = y := funext h
theorem M.pb {α β : Type} (a : α) (f : α → M β) : (pure a >>= f) = f a := rfl
theorem M.bp {α : Type} (x : M α) : (x >>= pure) = x := by
  funext m
  show M.bd x pure m = x m
  unfold M.bd
  cases x m <;> rfl
theorem M.ba {α β γ : Type} (x : M α) (f : α → M β) (g : β → M γ) : (x >>= f >>= g) = (x >>= fun a => f a >>= g) := by
  funext m
  show M.bd (M.bd x f) g m = M.bd x (fun a => f a >>= g) m
  unfold M.bd
  cases x m <;> rfl
theorem M.nb {α β : Type} (f : α → M β) : ((M.no : M α) >>= f) = M.no := rfl
theorem M.rb {α β : Type} (c : Exn) (f : α → M β) : ((M.rs c : M α) >>= f) = M.rs c := rfl
instance : LawfulMonad M := LawfulMonad.mk' M
  (id_map := fun x => by
    funext m
    show M.bd x (fun a => pure a) m = x m
    unfold M.bd
    cases x m <;> rfl)
  (pure_bind := fun a f => rfl)
  (bind_assoc := fun x f g => M.ba x f g)
/-- a result that some function of values gives, or none -/
def lft {α : Type} : Option α → M α
  | some a => pure a
  | none => M.no
theorem lft_some {α : Type} (a : α) : lft (some a) = pure a := rfl
theorem lft_none {α : Type} : lft (none : Option α) = M.no := rfl

def Good {α : Type} (o : Out α) (P : α → MS → Prop) (R : Exn → MS → Prop) : Prop :=
  match o with
  | .ok a m => P a m
  | .exc c m => R c m
  | .bad => False
theorem Good.mono {α : Type} {o : Out α} {P P' : α → MS → Prop} {R R' : Exn → MS → Prop} (h : Good o P R) (hp : ∀ a m, P a m → P' a m) (hr : ∀ c m, R c m → R' c m) : Good o P' R' := by
  cases o with
  | ok a m => exact hp a m h
  | exc c m => exact hr c m h
  | bad => exact h
theorem Good.bd {α β : Type} {x : M α} {f : α → M β} {m : MS} {P : β → MS → Prop} {R : Exn → MS → Prop} (h : Good ((x >>= f) m) P R) : Good (x m) (fun a m' => Good (f a m') P R) R := by
  have e : (x >>= f) m = M.bd x f m := rfl
  rw [e] at h
  unfold M.bd at h
  cases q : x m with
  | ok a m' => rw [q] at h; exact h
  | exc c m' => rw [q] at h; exact h
  | bad => rw [q] at h; exact h
theorem Good.lft {α : Type} {o : Option α} {m : MS} {P : α → MS → Prop} {R : Exn → MS → Prop} (h : Good (VL.lft o m) P R) : ∃ a, o = some a ∧ P a m := by
  cases o with
  | none => exact h.elim
  | some a => exact ⟨a, rfl, h⟩

/-! ### hidden addresses -/
def hide (Z : List Addr) (H : Hp) : Hp := fun a => if a ∈ Z then none else H a
theorem hide_ne {Z : List Addr} {H : Hp} {a : Addr} (h : a ∉ Z) : hide Z H a = H a := if_neg h
theorem hide_in {Z : List Addr} {H : Hp} {a : Addr} (h : a ∈ Z) : hide Z H a = none := if_pos h
theorem hide_some {Z : List Addr} {H : Hp} {a : Addr} {o : HO} (h : hide Z H a = some o) : a ∉ Z ∧ H a = some o := by
  by_cases q : a ∈ Z
  · rw [hide_in q] at h
    cases h
  · rw [hide_ne q] at h
    exact ⟨q, h⟩
theorem hide_same (Z : List Addr) (H : Hp) : Same (hide Z H) H := fun _ _ h => (hide_some h).2
theorem hide_sub {Z Y : List Addr} {H : Hp} (h : ∀ a ∈ Y, a ∈ Z) : Same (hide Z H) (hide Y H) := fun a o e => by
  obtain ⟨h1, h2⟩ := hide_some e
  rw [hide_ne fun q => h1 (h a q)]
  exact h2
theorem same_rd {H H' : Hp} {a : Addr} {u : HO} (e : Same H H') (h : Rd H a u) : Rd H' a u := by
  rcases h with h | ⟨o, h⟩
  · exact .inl (e _ _ h)
  · exact .inr ⟨o, e _ _ h⟩
mutual
/-- the value is this data; all of it is tracked -/
inductive Dq (K : PySem.W.Frag) (H : Hp) : V → PyData → Prop
  | non : Dq K H .non .none
  | bl (b : Bool) : Dq K H (.bl b) (.bool b)
  | int (i : Int) : Dq K H (.int i) (.int i)
  | str (x : Str) : Dq K H (.str x) (.str x)
  | lst {a : Addr} {xs : List V} {ds : List PyData} (h : Rd H a (.lst xs)) (r : DqAll K H xs ds) : Dq K H (.ref a) (.list ds)
  | tup {a : Addr} {xs : List V} {ds : List PyData} (h : Rd H a (.tup xs)) (r : DqAll K H xs ds) : Dq K H (.ref a) (.tuple ds)
  | emp {a : Addr} (h : H a = some (.dK [])) : Dq K H (.ref a) (.dict [])
  | fn {f : Addr} {x : Str} (h : PySem.W.nsIn K mainGlobals x = some (some (.ref f))) : Dq K H (.ref f) (.dict [(.none, .str x)])
inductive DqAll (K : PySem.W.Frag) (H : Hp) : List V → List PyData → Prop
  | nil : DqAll K H [] []
  | cons {v : V} {vs : List V} {d : PyData} {ds : List PyData} (h : Dq K H v d) (r : DqAll K H vs ds) : DqAll K H (v :: vs) (d :: ds)
end
mutual
/-- no dict in it -/
def nd0 : PyData → Bool
  | .list xs => nd0s xs
  | .tuple xs => nd0s xs
  | .dict _ => false
  | _ => true
def nd0s : List PyData → Bool
  | [] => true
  | x :: xs => nd0 x && nd0s xs
end
mutual
theorem Dq.dp {K : PySem.W.Frag} {H : Hp} : ∀ {d : PyData} {v : V}, Dq K H v d → nd0 d = true → Dp K H v d
  | .none, _, h, _ => by cases h; exact .non
  | .bool b, _, h, _ => by cases h; exact .bl b
  | .int i, _, h, _ => by cases h; exact .int i
  | .str x, _, h, _ => by cases h; exact .str x
  | .list ds, _, h, n => by
    unfold nd0 at n
    cases h with
    | lst h1 h2 => exact .lst (.inl h1) (DqAll.dp h2 n)
  | .tuple ds, _, h, n => by
    unfold nd0 at n
    cases h with
    | tup h1 h2 => exact .tup (.inl h1) (DqAll.dp h2 n)
  | .dict _, _, h, n => by
    unfold nd0 at n
    cases n
theorem DqAll.dp {K : PySem.W.Frag} {H : Hp} : ∀ {ds : List PyData} {vs : List V}, DqAll K H vs ds → nd0s ds = true → DpAll K H vs ds
  | [], _, h, _ => by cases h; exact .nil
  | d :: ds, _, h, n => by
    unfold nd0s at n
    obtain ⟨n1, n2⟩ := Bool.and_eq_true_iff.mp n
    cases h with
    | cons h1 h2 => exact .cons (Dq.dp h1 n1) (DqAll.dp h2 n2)
end
mutual
theorem Dq.mono {K : PySem.W.Frag} {H H' : Hp} (e : Same H H') : ∀ {d : PyData} {v : V}, Dq K H v d → Dq K H' v d
  | .none, _, h => by cases h; exact .non
  | .bool b, _, h => by cases h; exact .bl b
  | .int i, _, h => by cases h; exact .int i
  | .str x, _, h => by cases h; exact .str x
  | .list ds, _, h => by
    cases h with
    | lst h1 h2 => exact .lst (same_rd e h1) (DqAll.mono e h2)
  | .tuple ds, _, h => by
    cases h with
    | tup h1 h2 => exact .tup (same_rd e h1) (DqAll.mono e h2)
  | .dict _, _, h => by
    cases h with
    | emp h => exact .emp (e _ _ h)
    | fn h => exact .fn h
theorem DqAll.mono {K : PySem.W.Frag} {H H' : Hp} (e : Same H H') : ∀ {ds : List PyData} {vs : List V}, DqAll K H vs ds → DqAll K H' vs ds
  | [], _, h => by cases h; exact .nil
  | d :: ds, _, h => by
    cases h with
    | cons h1 h2 => exact .cons (Dq.mono e h1) (DqAll.mono e h2)
end
theorem DqAll.length {K : PySem.W.Frag} {H : Hp} : ∀ {ds : List PyData} {vs : List V}, DqAll K H vs ds → vs.length = ds.length
  | [], _, h => by cases h; rfl
  | d :: ds, _, h => by
    cases h with
    | cons h1 h2 => simp [DqAll.length h2]
theorem DqAll.get {K : PySem.W.Frag} {H : Hp} : ∀ {ds : List PyData} {vs : List V} {i : Nat} {d : PyData}, DqAll K H vs ds → ds[i]? = some d → ∃ v, vs[i]? = some v ∧ Dq K H v d
  | [], _, _, _, _, e => by simp at e
  | d0 :: ds, _, i, d, h, e => by
    cases h with
    | cons h1 h2 =>
      cases i with
      | zero =>
        simp at e
        subst e
        exact ⟨_, rfl, h1⟩
      | succ i =>
        obtain ⟨v, q1, q2⟩ := DqAll.get (i := i) h2 (by simpa using e)
        exact ⟨v, by simpa using q1, q2⟩
theorem DqAll.getV {K : PySem.W.Frag} {H : Hp} {ds : List PyData} {vs : List V} {i : Nat} {v : V} (h : DqAll K H vs ds) (e : vs[i]? = some v) : ∃ d, ds[i]? = some d ∧ Dq K H v d := by
  have hl := DqAll.length h
  have hi : i < ds.length := by
    have := (List.getElem?_eq_some_iff.mp e).1
    omega
  obtain ⟨w, q1, q2⟩ := DqAll.get h (List.getElem?_eq_getElem hi)
  rw [e] at q1
  cases q1
  exact ⟨_, List.getElem?_eq_getElem hi, q2⟩
theorem DqAll.append {K : PySem.W.Frag} {H : Hp} : ∀ {ds es : List PyData} {vs ws : List V}, DqAll K H vs ds → DqAll K H ws es → DqAll K H (vs ++ ws) (ds ++ es)
  | [], _, _, _, h, h' => by cases h; exact h'
  | d :: ds, _, _, _, h, h' => by
    cases h with
    | cons h1 h2 => exact .cons h1 (DqAll.append h2 h')
theorem DqAll.one {K : PySem.W.Frag} {H : Hp} {d : PyData} {v : V} (h : Dq K H v d) : DqAll K H [v] [d] := .cons h .nil
theorem DqAll.take {K : PySem.W.Frag} {H : Hp} : ∀ {ds : List PyData} {vs : List V} (n : Nat), DqAll K H vs ds → DqAll K H (vs.take n) (ds.take n)
  | _, _, 0, _ => by simp; exact .nil
  | [], _, _ + 1, h => by cases h; exact .nil
  | d :: ds, _, n + 1, h => by
    cases h with
    | cons h1 h2 => exact .cons h1 (DqAll.take n h2)
theorem DqAll.drop {K : PySem.W.Frag} {H : Hp} : ∀ {ds : List PyData} {vs : List V} (n : Nat), DqAll K H vs ds → DqAll K H (vs.drop n) (ds.drop n)
  | _, _, 0, h => h
  | [], _, _ + 1, h => by cases h; exact .nil
  | d :: ds, _, n + 1, h => by
    cases h with
    | cons h1 h2 => exact DqAll.drop n h2
theorem DqAll.set {K : PySem.W.Frag} {H : Hp} {d : PyData} {v : V} (hd : Dq K H v d) : ∀ {ds : List PyData} {vs : List V} (n : Nat), DqAll K H vs ds → DqAll K H (vs.set n v) (ds.set n d)
  | [], _, _, h => by cases h; exact .nil
  | e :: ds, _, 0, h => by
    cases h with
    | cons h1 h2 => exact .cons hd h2
  | e :: ds, _, n + 1, h => by
    cases h with
    | cons h1 h2 => exact .cons h1 (DqAll.set hd n h2)
theorem DqAll.ints {K : PySem.W.Frag} {H : Hp} : ∀ {ns : List Int} {vs : List V}, DqAll K H vs (ns.map PyData.int) → vs = ns.map V.int
  | [], _, h => by cases h; rfl
  | n :: ns, _, h => by
    cases h with
    | cons h1 h2 =>
      cases h1
      rw [DqAll.ints h2]
      rfl
theorem DqAll.ofInts {K : PySem.W.Frag} {H : Hp} : ∀ (ns : List Int), DqAll K H (ns.map V.int) (ns.map PyData.int)
  | [] => .nil
  | n :: ns => .cons (.int n) (DqAll.ofInts ns)
theorem DqAll.bools {K : PySem.W.Frag} {H : Hp} : ∀ {bs : List Bool} {vs : List V}, DqAll K H vs (bs.map PyData.bool) → vs = bs.map V.bl
  | [], _, h => by cases h; rfl
  | n :: ns, _, h => by
    cases h with
    | cons h1 h2 =>
      cases h1
      rw [DqAll.bools h2]
      rfl

mutual
/-- .. whose tuples are plainly known (they may be keys) -/
inductive Dz (K : PySem.W.Frag) (H : Hp) : V → PyData → Prop
  | non : Dz K H .non .none
  | bl (b : Bool) : Dz K H (.bl b) (.bool b)
  | int (i : Int) : Dz K H (.int i) (.int i)
  | str (x : Str) : Dz K H (.str x) (.str x)
  | lst {a : Addr} {xs : List V} {ds : List PyData} (h : Rd H a (.lst xs)) (r : DzAll K H xs ds) : Dz K H (.ref a) (.list ds)
  | tup {a : Addr} {xs : List V} {ds : List PyData} (h : H a = some (.tup xs)) (r : DzAll K H xs ds) : Dz K H (.ref a) (.tuple ds)
inductive DzAll (K : PySem.W.Frag) (H : Hp) : List V → List PyData → Prop
  | nil : DzAll K H [] []
  | cons {v : V} {vs : List V} {d : PyData} {ds : List PyData} (h : Dz K H v d) (r : DzAll K H vs ds) : DzAll K H (v :: vs) (d :: ds)
end
mutual
theorem Dz.dq {K : PySem.W.Frag} {H : Hp} : ∀ {d : PyData} {v : V}, Dz K H v d → Dq K H v d
  | .none, _, h => by cases h; exact .non
  | .bool b, _, h => by cases h; exact .bl b
  | .int i, _, h => by cases h; exact .int i
  | .str x, _, h => by cases h; exact .str x
  | .list ds, _, h => by
    cases h with
    | lst h1 h2 => exact .lst h1 (DzAll.dq h2)
  | .tuple ds, _, h => by
    cases h with
    | tup h1 h2 => exact .tup (Rd.of h1) (DzAll.dq h2)
  | .dict _, _, h => by cases h
theorem DzAll.dq {K : PySem.W.Frag} {H : Hp} : ∀ {ds : List PyData} {vs : List V}, DzAll K H vs ds → DqAll K H vs ds
  | [], _, h => by cases h; exact .nil
  | d :: ds, _, h => by
    cases h with
    | cons h1 h2 => exact .cons (Dz.dq h1) (DzAll.dq h2)
end
mutual
theorem Dz.mono {K : PySem.W.Frag} {H H' : Hp} (e : Same H H') : ∀ {d : PyData} {v : V}, Dz K H v d → Dz K H' v d
  | .none, _, h => by cases h; exact .non
  | .bool b, _, h => by cases h; exact .bl b
  | .int i, _, h => by cases h; exact .int i
  | .str x, _, h => by cases h; exact .str x
  | .list ds, _, h => by
    cases h with
    | lst h1 h2 => exact .lst (same_rd e h1) (DzAll.mono e h2)
  | .tuple ds, _, h => by
    cases h with
    | tup h1 h2 => exact .tup (e _ _ h1) (DzAll.mono e h2)
  | .dict _, _, h => by cases h
theorem DzAll.mono {K : PySem.W.Frag} {H H' : Hp} (e : Same H H') : ∀ {ds : List PyData} {vs : List V}, DzAll K H vs ds → DzAll K H' vs ds
  | [], _, h => by cases h; exact .nil
  | d :: ds, _, h => by
    cases h with
    | cons h1 h2 => exact .cons (Dz.mono e h1) (DzAll.mono e h2)
end
theorem DzAll.append {K : PySem.W.Frag} {H : Hp} : ∀ {ds es : List PyData} {vs ws : List V}, DzAll K H vs ds → DzAll K H ws es → DzAll K H (vs ++ ws) (ds ++ es)
  | [], _, _, _, h, h' => by cases h; exact h'
  | d :: ds, _, _, _, h, h' => by
    cases h with
    | cons h1 h2 => exact .cons h1 (DzAll.append h2 h')
theorem DzAll.get {K : PySem.W.Frag} {H : Hp} : ∀ {ds : List PyData} {vs : List V} {i : Nat} {d : PyData}, DzAll K H vs ds → ds[i]? = some d → ∃ v, vs[i]? = some v ∧ Dz K H v d
  | [], _, _, _, _, e => by simp at e
  | d0 :: ds, _, i, d, h, e => by
    cases h with
    | cons h1 h2 =>
      cases i with
      | zero =>
        simp at e
        subst e
        exact ⟨_, rfl, h1⟩
      | succ i =>
        obtain ⟨v, q1, q2⟩ := DzAll.get (i := i) h2 (by simpa using e)
        exact ⟨v, by simpa using q1, q2⟩

/-! ### dicts -/
def keyD : Key → D
  | .inl i => .int i
  | .inr x => .str x
def keyT (k : List Key) : D := .tuple (k.map keyD)
/-- a dict of this heap object -/
inductive DicR (K : PySem.W.Frag) (H : Hp) : List (D × D) → HO → Prop
  | k (ks : List Key) (vs : List V) (ds : List D) (h : DqAll K H vs ds) (hl : ks.length = vs.length) : DicR K H ((ks.map keyD).zip ds) (.dK (ks.zip vs))
  | t (ks : List (List Key)) (vs : List V) (ds : List D) (h : DqAll K H vs ds) (hl : ks.length = vs.length) : DicR K H ((ks.map keyT).zip ds) (.dT (ks.zip vs))
theorem DicR.mono {K : PySem.W.Frag} {H H' : Hp} (e : Same H H') {kvs : List (D × D)} {o : HO} (h : DicR K H kvs o) : DicR K H' kvs o := by
  cases h with
  | k ks vs ds h hl => exact .k ks vs ds (DqAll.mono e h) hl
  | t ks vs ds h hl => exact .t ks vs ds (DqAll.mono e h) hl
/-- the value v is the data d -/
def Rp (K : PySem.W.Frag) (H : Hp) (d : D) (v : V) : Prop :=
  match d with
  | .dict kvs => (∃ a o, v = .ref a ∧ H a = some o ∧ DicR K H kvs o) ∨ Dq K H v (.dict kvs)
  | d => Dq K H v d
theorem Rp.of {K : PySem.W.Frag} {H : Hp} {d : D} {v : V} (h : Dq K H v d) : Rp K H d v := by
  cases d with
  | dict kvs => exact .inr h
  | _ => exact h
def noDic : D → Bool
  | .dict _ => false
  | _ => true
theorem Rp.dq {K : PySem.W.Frag} {H : Hp} {d : D} {v : V} (h : Rp K H d v) (n : noDic d = true) : Dq K H v d := by
  cases d <;> first | exact h | cases n
theorem Rp.mono {K : PySem.W.Frag} {H H' : Hp} (e : Same H H') {d : D} {v : V} (h : Rp K H d v) : Rp K H' d v := by
  cases d with
  | dict kvs =>
    rcases h with ⟨a, o, h1, h2, h3⟩ | h
    · exact .inl ⟨a, o, h1, e _ _ h2, h3.mono e⟩
    · exact .inr (Dq.mono e h)
  | none => exact Dq.mono e h
  | bool b => exact Dq.mono e h
  | int b => exact Dq.mono e h
  | str b => exact Dq.mono e h
  | list b => exact Dq.mono e h
  | tuple b => exact Dq.mono e h
/-- a tuple that is known to the object, without a dict of its own (so its methods are the type's) -/
def NoDt (H : Hp) (v : V) : Prop := ∃ a o xs, v = .ref a ∧ H a = some (.frz o (.tup xs)) ∧ o.dict = none
theorem NoDt.mono {H H' : Hp} (e : Same H H') {v : V} (h : NoDt H v) : NoDt H' v :=
  let ⟨a, o, xs, h1, h2, h3⟩ := h
  ⟨a, o, xs, h1, e _ _ h2, h3⟩
/-- kinds of values: data, a dict, a tuple without a dict -/
inductive Kd where
  | dat | dic | dit | nd | pl
  deriving DecidableEq
def Res (K : PySem.W.Frag) (H : Hp) (k : Kd) (d : D) (v : V) : Prop :=
  match k with
  | .dat => Dq K H v d
  | .dic => ∃ a kvs l, v = .ref a ∧ d = .dict kvs ∧ H a = some (.dK l) ∧ DicR K H kvs (.dK l)
  | .dit => ∃ a kvs l, v = .ref a ∧ d = .dict kvs ∧ H a = some (.dT l) ∧ DicR K H kvs (.dT l)
  | .nd => Dq K H v d ∧ NoDt H v
  | .pl => Dz K H v d
theorem Res.mono {K : PySem.W.Frag} {H H' : Hp} (e : Same H H') {k : Kd} {d : D} {v : V} (h : Res K H k d v) : Res K H' k d v := by
  cases k with
  | dat => exact Dq.mono e h
  | dic =>
    obtain ⟨a, kvs, l, h1, h2, h3, h4⟩ := h
    exact ⟨a, kvs, l, h1, h2, e _ _ h3, h4.mono e⟩
  | dit =>
    obtain ⟨a, kvs, l, h1, h2, h3, h4⟩ := h
    exact ⟨a, kvs, l, h1, h2, e _ _ h3, h4.mono e⟩
  | nd => exact ⟨Dq.mono e h.1, h.2.mono e⟩
  | pl => exact Dz.mono e h
theorem Res.rp {K : PySem.W.Frag} {H : Hp} {k : Kd} {d : D} {v : V} (h : Res K H k d v) : Rp K H d v := by
  cases k with
  | dat => exact Rp.of h
  | dic =>
    obtain ⟨a, kvs, l, h1, h2, h3, h4⟩ := h
    rw [h2]
    exact .inl ⟨a, _, h1, h3, h4⟩
  | dit =>
    obtain ⟨a, kvs, l, h1, h2, h3, h4⟩ := h
    rw [h2]
    exact .inl ⟨a, _, h1, h3, h4⟩
  | nd => exact Rp.of h.1
  | pl => exact Rp.of (Dz.dq h)
/-- arguments by their kinds -/
def AllK (K : PySem.W.Frag) (H : Hp) : List Kd → List V → List D → Prop
  | [], [], [] => True
  | k :: ks, v :: vs, d :: ds => Res K H k d v ∧ AllK K H ks vs ds
  | _, _, _ => False
theorem AllK.mono {K : PySem.W.Frag} {H H' : Hp} (e : Same H H') : ∀ {ks : List Kd} {vs : List V} {ds : List D}, AllK K H ks vs ds → AllK K H' ks vs ds
  | [], [], [], _ => trivial
  | _ :: _, _ :: _, _ :: _, h => ⟨h.1.mono e, AllK.mono e h.2⟩
  | [], _ :: _, _, h => by cases h
  | [], [], _ :: _, h => by cases h
  | _ :: _, [], _, h => by cases h
  | _ :: _, _ :: _, [], h => by cases h
theorem AllK.len {K : PySem.W.Frag} {H : Hp} : ∀ {ks : List Kd} {vs : List V} {ds : List D}, AllK K H ks vs ds → vs.length = ks.length ∧ ds.length = ks.length
  | [], [], [], _ => ⟨rfl, rfl⟩
  | _ :: _, _ :: _, _ :: _, h => ⟨congrArg Nat.succ (AllK.len h.2).1, congrArg Nat.succ (AllK.len h.2).2⟩
  | [], _ :: _, _, h => by cases h
  | [], [], _ :: _, h => by cases h
  | _ :: _, [], _, h => by cases h
  | _ :: _, _ :: _, [], h => by cases h
/-- what an owned object is -/
inductive OwnR (K : PySem.W.Frag) (H : Hp) : D → HO → Prop
  | lst (ds : List D) (vs : List V) (h : DqAll K H vs ds) : OwnR K H (.list ds) (.lst vs)
  | dic (kvs : List (D × D)) (o : HO) (h : DicR K H kvs o) : OwnR K H (.dict kvs) o
/-- the kind of an object -/
def kO : HO → Kd
  | .dK _ => .dic
  | .dT _ => .dit
  | _ => .dat
theorem OwnR.mono {K : PySem.W.Frag} {H H' : Hp} (e : Same H H') {d : D} {o : HO} (h : OwnR K H d o) : OwnR K H' d o := by
  cases h with
  | lst ds vs h => exact .lst ds vs (DqAll.mono e h)
  | dic kvs o h => exact .dic kvs o (h.mono e)
theorem OwnR.rp {K : PySem.W.Frag} {H : Hp} {d : D} {o : HO} {a : Addr} (h : OwnR K H d o) (ha : H a = some o) : Rp K H d (.ref a) := by
  cases h with
  | lst ds vs h => exact Dq.lst (Rd.of ha) h
  | dic kvs o h => exact .inl ⟨a, o, rfl, ha, h⟩

/-! ### the drawing machine -/
structure Wd where
  am : Addr
  cA : Addr
  gA : Addr
  ne : cA ≠ gA
def SameW (W : Option Wd) (H H' : Hp) : Prop := ∀ b o, (∀ w, W = some w → b ≠ w.am ∧ b ≠ w.gA) → H b = some o → H' b = some o
theorem SameW.refl (W : Option Wd) (H : Hp) : SameW W H H := fun _ _ _ h => h
theorem SameW.trans {W : Option Wd} {H H1 H2 : Hp} (a : SameW W H H1) (b : SameW W H1 H2) : SameW W H H2 := fun x o n h => b x o n (a x o n h)
theorem SameW.of {W : Option Wd} {H H' : Hp} (h : Same H H') : SameW W H H' := fun b o _ e => h b o e
theorem rd_upd {H : Hp} {a b : Addr} {u o : HO} (h : Rd H b u) (n : b ≠ a) : Rd (upd H a o) b u := by
  rcases h with h | ⟨x, h⟩
  · exact .inl (by rw [upd_ne n]; exact h)
  · exact .inr ⟨x, by rw [upd_ne n]; exact h⟩
def DrawOk (W : Option Wd) (H : Hp) (m : MS) : Prop := ∀ w, W = some w →
  H w.am = some (.dK [(.inr "cells", .ref w.cA), (.inr "great", .ref w.gA), (.inr "spot", .int m.2.2)]) ∧ Rd H w.cA (.lst (m.1.map V.int)) ∧ H w.gA = some (.lst (m.2.1.map V.int))
theorem DrawOk.same {W : Option Wd} {H H' : Hp} {m : MS} (h : DrawOk W H m) (s : Same H H') : DrawOk W H' m := fun w e =>
  let ⟨h1, h2, h3⟩ := h w e
  ⟨s _ _ h1, same_rd s h2, s _ _ h3⟩
def WIn (W : Option Wd) (Z : List Addr) : Prop := ∀ w, W = some w → w.am ∈ Z ∧ w.cA ∈ Z ∧ w.gA ∈ Z
theorem SameW.hide {W : Option Wd} {Z : List Addr} {H H' : Hp} (h : SameW W H H') (wz : WIn W Z) : Same (hide Z H) (hide Z H') := fun a o e => by
  obtain ⟨h1, h2⟩ := hide_some e
  rw [hide_ne h1]
  refine h a o (fun w q => ⟨fun z => h1 (z ▸ (wz w q).1), fun z => h1 (z ▸ (wz w q).2.2)⟩) h2
theorem same_new {H : Hp} {p : Addr} (h : H p = none) (o : HO) : Same H (upd H p o) := fun b u q => by
  rw [upd_ne (ne_of_none q h)]
  exact q
/-- what stood stands behind a new object, that one hidden or not -/
theorem hide_push {Z : List Addr} {H : Hp} {p : Addr} {o : HO} (h : H p = none) : Same (hide Z H) (hide (p :: Z) (upd H p o)) := fun b u q => by
  obtain ⟨h1, h2⟩ := hide_some q
  have n : b ≠ p := ne_of_none h2 h
  rw [hide_ne (by simp only [List.mem_cons, not_or]; exact ⟨n, h1⟩), upd_ne n]
  exact h2
theorem hide_push0 {Z : List Addr} {H : Hp} {p : Addr} {o : HO} (h : H p = none) : Same (hide Z H) (hide Z (upd H p o)) := fun b u q => by
  obtain ⟨h1, h2⟩ := hide_some q
  rw [hide_ne h1, upd_ne (ne_of_none h2 h)]
  exact h2
/-- a new object is seen -/
theorem hide_new {Z : List Addr} {H : Hp} {p : Addr} {o : HO} (hz : ∀ z ∈ Z, H z ≠ none) (h : H p = none) : VL.hide Z (upd H p o) p = some o := by
  rw [hide_ne fun q => hz p q h]
  exact upd_same

theorem OwnR.res {K : PySem.W.Frag} {H : Hp} {d : D} {o : HO} {a : Addr} (h : OwnR K H d o) (ha : H a = some o) : Res K H (kO o) d (.ref a) := by
  cases h with
  | lst ds vs h => exact Dq.lst (Rd.of ha) h
  | dic kvs o h =>
    cases h with
    | k ks vs ds h hl => exact ⟨a, _, _, rfl, rfl, ha, .k ks vs ds h hl⟩
    | t ks vs ds h hl => exact ⟨a, _, _, rfl, rfl, ha, .t ks vs ds h hl⟩
theorem nodup_inj {O : List (Nat × Addr)} (nd : (O.map (·.2)).Nodup) {p q : Nat × Addr} (hp : p ∈ O) (hq : q ∈ O) (e : p.2 = q.2) : p = q := by
  induction O with
  | nil => cases hp
  | cons x r ih =>
    rw [List.map_cons, List.nodup_cons] at nd
    rcases List.mem_cons.mp hp with hp | hp
    · rcases List.mem_cons.mp hq with hq | hq
      · exact hp.trans hq.symm
      · exact absurd (List.mem_map.mpr ⟨q, hq, by rw [← e, hp]⟩) nd.1
    · rcases List.mem_cons.mp hq with hq | hq
      · exact absurd (List.mem_map.mpr ⟨p, hp, by rw [e, hq]⟩) nd.1
      · exact ih nd.2 hp hq
theorem nodup_inj1 {O : List (Nat × Addr)} (nd : (O.map (·.1)).Nodup) {p q : Nat × Addr} (hp : p ∈ O) (hq : q ∈ O) (e : p.1 = q.1) : p = q := by
  induction O with
  | nil => cases hp
  | cons x r ih =>
    rw [List.map_cons, List.nodup_cons] at nd
    rcases List.mem_cons.mp hp with hp | hp
    · rcases List.mem_cons.mp hq with hq | hq
      · exact hp.trans hq.symm
      · exact absurd (List.mem_map.mpr ⟨q, hq, by rw [← e, hp]⟩) nd.1
    · rcases List.mem_cons.mp hq with hq | hq
      · exact absurd (List.mem_map.mpr ⟨p, hp, by rw [e, hq]⟩) nd.1
      · exact ih nd.2 hp hq
/-! ### the state -/
abbrev SE := List (Option D)
def ZO (Z : List Addr) (O : List (Nat × Addr)) : List Addr := Z ++ O.map (·.2)
structure EnvOk (K : PySem.W.Frag) (W : Option Wd) (ms : List Nat) (dk : Nat → Kd) (Z : List Addr) (H0 : Hp) (U : List Nat) (O : List (Nat × Addr)) (e : SE) (σ : St) (H : Hp) (m : MS) : Prop where
  len : e.length = σ.length
  us : ∀ i, i ∈ O.map (·.1) ↔ i ∈ U
  und : (O.map (·.1)).Nodup
  wz : WIn W Z
  zt0 : ∀ z ∈ Z, H z ≠ none
  w0 : ∀ w, W = some w → H0 w.am ≠ none ∧ H0 w.cA ≠ none ∧ H0 w.gA ≠ none
  dr : DrawOk W H m
  same : SameW W H0 H
  dm : ∀ w, W = some w → ∀ j ∈ ms, σ[j]? = some (some (.ref w.am))
  nds : (O.map (·.2)).Nodup
  nz : ∀ p ∈ O, p.2 ∉ Z
  own : ∀ p ∈ O, H0 p.2 = none ∧ ∃ d o, e[p.1]? = some (some d) ∧ σ[p.1]? = some (some (.ref p.2)) ∧ H p.2 = some o ∧ OwnR K (hide (ZO Z O) H) d o ∧ dk p.1 = kO o
  rep : ∀ i d, e[i]? = some (some d) → i ∉ U → ∃ v, σ[i]? = some (some v) ∧ Res K (hide (ZO Z O) H) (dk i) d v
section
variable {K : PySem.W.Frag} {W : Option Wd} {ms : List Nat} {dk : Nat → Kd} {Z : List Addr} {H0 H H' : Hp} {U : List Nat} {O : List (Nat × Addr)} {e : SE} {σ : St} {m m' : MS}
theorem EnvOk.wzo (h : EnvOk K W ms dk Z H0 U O e σ H m) : WIn W (ZO Z O) := fun w q =>
  let ⟨a, b, c⟩ := h.wz w q
  ⟨List.mem_append_left _ a, List.mem_append_left _ b, List.mem_append_left _ c⟩
/-- what is hidden is tracked -/
theorem EnvOk.zt (h : EnvOk K W ms dk Z H0 U O e σ H m) : ∀ z ∈ ZO Z O, H z ≠ none := fun z hz => by
  rcases List.mem_append.mp hz with q | q
  · exact h.zt0 z q
  · obtain ⟨p, hp, rfl⟩ := List.mem_map.mp q
    obtain ⟨_, d, o, _, _, ho, _, _⟩ := h.own p hp
    rw [ho]
    exact fun x => nomatch x
/-- an owned address is none of the machine's -/
theorem EnvOk.onw (h : EnvOk K W ms dk Z H0 U O e σ H m) {p : Nat × Addr} (hp : p ∈ O) : ∀ w, W = some w → p.2 ≠ w.am ∧ p.2 ≠ w.gA := fun w q => by
  have n := (h.own p hp).1
  obtain ⟨a, b, c⟩ := h.w0 w q
  exact ⟨fun r => a (r ▸ n), fun r => c (r ▸ n)⟩
/-- tracked things stay tracked -/
theorem there_step (s : SameW W H H') (d : DrawOk W H' m') {z : Addr} (n : H z ≠ none) : H' z ≠ none := by
  by_cases hw : ∀ w, W = some w → z ≠ w.am ∧ z ≠ w.gA
  · cases r : H z with
    | none => exact absurd r n
    | some o =>
      rw [s z o hw r]
      exact fun x => nomatch x
  · intro q
    refine hw fun w e => ⟨fun t => ?_, fun t => ?_⟩
    · rw [t, (d w e).1] at q
      cases q
    · rw [t, (d w e).2.2] at q
      cases q
/-- the heap grew, the machine may have turned -/
theorem EnvOk.step (h : EnvOk K W ms dk Z H0 U O e σ H m) (s : SameW W H H') (d : DrawOk W H' m') : EnvOk K W ms dk Z H0 U O e σ H' m' where
  len := h.len
  us := h.us
  und := h.und
  wz := h.wz
  zt0 := fun z hz => there_step s d (h.zt0 z hz)
  w0 := h.w0
  dr := d
  same := h.same.trans s
  dm := h.dm
  nds := h.nds
  nz := h.nz
  own := fun p hp => by
    obtain ⟨n, d, o, h1, h2, h3, h4, h5⟩ := h.own p hp
    exact ⟨n, d, o, h1, h2, s _ _ (h.onw hp) h3, h4.mono (s.hide h.wzo), h5⟩
  rep := fun i d h1 h2 => by
    obtain ⟨v, h3, h4⟩ := h.rep i d h1 h2
    exact ⟨v, h3, h4.mono (s.hide h.wzo)⟩
/-- what is new later was new before -/
theorem none_step (s : SameW W H H') (d : DrawOk W H' m') {p : Addr} (n : H' p = none) : H p = none := by
  cases r : H p with
  | none => rfl
  | some o => exact absurd n (there_step s d (by rw [r]; exact fun x => nomatch x))
theorem EnvOk.same_none (h : EnvOk K W ms dk Z H0 U O e σ H m) (s : SameW W H H') (d : DrawOk W H' m') {p : Addr} (n : H' p = none) : H p = none := none_step s d n
/-- the machine's addresses are tracked -/
theorem EnvOk.wt (h : EnvOk K W ms dk Z H0 U O e σ H m) {p : Addr} (n : H p = none) : ∀ w, W = some w → p ≠ w.am ∧ p ≠ w.gA := fun w q => by
  obtain ⟨d1, d2, d3⟩ := h.dr w q
  refine ⟨fun t => ?_, fun t => ?_⟩
  · rw [t, d1] at n
    cases n
  · rw [t, d3] at n
    cases n
theorem EnvOk.grow (h : EnvOk K W ms dk Z H0 U O e σ H m) (s : Same H H') : EnvOk K W ms dk Z H0 U O e σ H' m := h.step (.of s) (h.dr.same s)
/-- what stood is seen behind a new object that is hidden -/
theorem hide_temp {W : Option Wd} {Z : List Addr} {H H' : Hp} {a : Addr} (s : SameW W H H') (wz : WIn W Z) (n : H a = none) : Same (hide Z H) (hide (a :: Z) H') := fun b o q => by
  obtain ⟨h1, h2⟩ := hide_some q
  have nb : b ≠ a := ne_of_none h2 n
  have h3 := (hide_some (s.hide wz b o q)).2
  rw [hide_ne (by simp only [List.mem_cons, not_or]; exact ⟨nb, h1⟩)]
  exact h3
/-- a new object at a, hidden for a while -/
theorem EnvOk.temp (h : EnvOk K W ms dk Z H0 U O e σ H m) (s : SameW W H H') (d : DrawOk W H' m') {a : Addr} (n : H a = none) (t : H' a ≠ none) : EnvOk K W ms dk (a :: Z) H0 U O e σ H' m' where
  len := h.len
  us := h.us
  und := h.und
  wz := fun w q =>
    let ⟨a, b, c⟩ := h.wz w q
    ⟨List.mem_cons_of_mem _ a, List.mem_cons_of_mem _ b, List.mem_cons_of_mem _ c⟩
  zt0 := fun z hz => by
    rcases List.mem_cons.mp hz with rfl | hz
    · exact t
    · exact there_step s d (h.zt0 z hz)
  w0 := h.w0
  dr := d
  same := h.same.trans s
  dm := h.dm
  nds := h.nds
  nz := fun p hp q => by
    rcases List.mem_cons.mp q with q | q
    · obtain ⟨_, d, o, _, _, ho, _, _⟩ := h.own p hp
      rw [q, n] at ho
      cases ho
    · exact h.nz p hp q
  own := fun p hp => by
    obtain ⟨n', d, o, h1, h2, h3, h4, h5⟩ := h.own p hp
    exact ⟨n', d, o, h1, h2, s _ _ (h.onw hp) h3, h4.mono (hide_temp s h.wzo n), h5⟩
  rep := fun i d h1 h2 => by
    obtain ⟨v, h3, h4⟩ := h.rep i d h1 h2
    exact ⟨v, h3, h4.mono (hide_temp s h.wzo n)⟩
theorem EnvOk.ne_own (h : EnvOk K W ms dk Z H0 U O e σ H m) {i : Nat} (hi : i ∉ U) {p : Nat × Addr} (hp : p ∈ O) : i ≠ p.1 := fun t =>
  hi ((h.us i).mp (by rw [t]; exact List.mem_map.mpr ⟨p, hp, rfl⟩))
theorem EnvOk.own_ne (h : EnvOk K W ms dk Z H0 U O e σ H m) {p q : Nat × Addr} (hp : p ∈ O) (hq : q ∈ O) (n : p ≠ q) : p.1 ≠ q.1 ∧ p.2 ≠ q.2 :=
  ⟨fun t => n (nodup_inj1 h.und hp hq t), fun t => n (nodup_inj h.nds hp hq t)⟩
/-- a slot's value is new: not owned -/
theorem EnvOk.put (h : EnvOk K W ms dk Z H0 U O e σ H m) {i : Nat} {d : D} {v : V} (hi : i ∉ U) (hm : i ∉ ms) (hl : i < σ.length) (r : Res K (hide (ZO Z O) H) (dk i) d v) : EnvOk K W ms dk Z H0 U O (e.set i (some d)) (σ.set i (some v)) H m where
  len := by rw [List.length_set, List.length_set]; exact h.len
  us := h.us
  und := h.und
  wz := h.wz
  zt0 := h.zt0
  w0 := h.w0
  dr := h.dr
  same := h.same
  dm := fun w q j hj => by
    have : i ≠ j := fun t => hm (t ▸ hj)
    rw [List.getElem?_set_ne this]
    exact h.dm w q j hj
  nds := h.nds
  nz := h.nz
  own := fun p hp => by
    obtain ⟨n', d, o, h1, h2, h3, h4, h5⟩ := h.own p hp
    have ne : i ≠ p.1 := h.ne_own hi hp
    exact ⟨n', d, o, by rw [List.getElem?_set_ne ne]; exact h1, by rw [List.getElem?_set_ne ne]; exact h2, h3, h4, h5⟩
  rep := fun j d' h1 h2 => by
    by_cases q : i = j
    · subst q
      rw [List.getElem?_set_self (by rw [h.len]; exact hl)] at h1
      cases h1
      exact ⟨v, by rw [List.getElem?_set_self hl], r⟩
    · rw [List.getElem?_set_ne q] at h1 ⊢
      exact h.rep j d' h1 h2
theorem mem_filt {O : List (Nat × Addr)} {U1 : List Nat} {p : Nat × Addr} : p ∈ O.filter (fun p => U1.contains p.1) ↔ p ∈ O ∧ p.1 ∈ U1 := by
  rw [List.mem_filter]
  simp
/-- owned things are given free -/
theorem EnvOk.freeze (h : EnvOk K W ms dk Z H0 U O e σ H m) {U1 : List Nat} (hU : ∀ i ∈ U1, i ∈ U) : EnvOk K W ms dk Z H0 U1 (O.filter fun p => U1.contains p.1) e σ H m := by
  have sub : ∀ a ∈ ZO Z (O.filter fun p => U1.contains p.1), a ∈ ZO Z O := fun a ha => by
    rcases List.mem_append.mp ha with q | q
    · exact List.mem_append_left _ q
    · obtain ⟨p, hp, rfl⟩ := List.mem_map.mp q
      exact List.mem_append_right _ (List.mem_map.mpr ⟨p, (mem_filt.mp hp).1, rfl⟩)
  refine ⟨h.len, fun i => ⟨fun hi => ?_, fun hi => ?_⟩, ?_, h.wz, h.zt0, h.w0, h.dr, h.same, h.dm, ?_, fun p hp => h.nz p (mem_filt.mp hp).1, fun p hp => ?_, fun i d h1 h2 => ?_⟩
  · obtain ⟨p, hp, rfl⟩ := List.mem_map.mp hi
    exact (mem_filt.mp hp).2
  · obtain ⟨p, hp, rfl⟩ := List.mem_map.mp ((h.us i).mpr (hU i hi))
    exact List.mem_map.mpr ⟨p, mem_filt.mpr ⟨hp, hi⟩, rfl⟩
  · exact h.und.sublist (List.Sublist.map _ List.filter_sublist)
  · exact h.nds.sublist (List.Sublist.map _ List.filter_sublist)
  · obtain ⟨n', d, o, h1, h2, h3, h4, h5⟩ := h.own p (mem_filt.mp hp).1
    exact ⟨n', d, o, h1, h2, h3, h4.mono (hide_sub sub), h5⟩
  · by_cases hi : i ∈ U
    · obtain ⟨p, hp, rfl⟩ := List.mem_map.mp ((h.us i).mpr hi)
      obtain ⟨n', d', o, g1, g2, g3, g4, g5⟩ := h.own p hp
      rw [h1] at g1
      cases g1
      have na : p.2 ∉ ZO Z (O.filter fun p => U1.contains p.1) := fun z => by
        rcases List.mem_append.mp z with q | q
        · exact h.nz p hp q
        · obtain ⟨r, hr, e⟩ := List.mem_map.mp q
          obtain ⟨r1, r2⟩ := mem_filt.mp hr
          have : r = p := nodup_inj h.nds r1 hp e
          subst this
          exact h2 r2
      refine ⟨_, g2, ?_⟩
      rw [g5]
      exact OwnR.res (g4.mono (hide_sub sub)) (by rw [hide_ne na]; exact g3)
    · obtain ⟨v, g1, g2⟩ := h.rep i d h1 hi
      exact ⟨v, g1, g2.mono (hide_sub sub)⟩
/-- what is new was new at the start -/
theorem EnvOk.none0 (h : EnvOk K W ms dk Z H0 U O e σ H m) {p : Addr} (n : H p = none) : H0 p = none := by
  cases r : H0 p with
  | none => rfl
  | some o =>
    rw [h.same p o (fun w q => h.wt n w q) r] at n
    cases n
/-- a slot's value is new: a new object of its own -/
theorem EnvOk.putO (h : EnvOk K W ms dk Z H0 U O e σ H m) (s : SameW W H H') (d' : DrawOk W H' m') {i : Nat} {d : D} {a : Addr} {o : HO} (hi : i ∉ U) (hm : i ∉ ms) (hl : i < σ.length) (n : H a = none) (ho : H' a = some o) (r : OwnR K (hide (a :: ZO Z O) H') d o) (hk : dk i = kO o) :
    EnvOk K W ms dk Z H0 (i :: U) ((i, a) :: O) (e.set i (some d)) (σ.set i (some (.ref a))) H' m' := by
  have sub : ∀ b ∈ ZO Z ((i, a) :: O), b ∈ a :: ZO Z O := fun b hb => by
    rcases List.mem_append.mp hb with q | q
    · exact List.mem_cons_of_mem _ (List.mem_append_left _ q)
    · rcases List.mem_cons.mp q with q | q
      · exact List.mem_cons.mpr (.inl q)
      · exact List.mem_cons_of_mem _ (List.mem_append_right _ q)
  have st : Same (hide (ZO Z O) H) (hide (ZO Z ((i, a) :: O)) H') := Same.trans (hide_temp s h.wzo n) (hide_sub sub)
  refine ⟨by rw [List.length_set, List.length_set]; exact h.len, fun j => ?_, ?_, h.wz, fun z hz => there_step s d' (h.zt0 z hz), h.w0, d', h.same.trans s, fun w q j hj => ?_, ?_, fun p hp => ?_, fun p hp => ?_, fun j d1 h1 h2 => ?_⟩
  · rw [List.map_cons, List.mem_cons, List.mem_cons, h.us]
  · rw [List.map_cons, List.nodup_cons]
    exact ⟨fun q => hi ((h.us i).mp q), h.und⟩
  · have : i ≠ j := fun t => hm (t ▸ hj)
    rw [List.getElem?_set_ne this]
    exact h.dm w q j hj
  · rw [List.map_cons, List.nodup_cons]
    refine ⟨fun q => ?_, h.nds⟩
    exact h.zt a (List.mem_append_right _ q) n
  · rcases List.mem_cons.mp hp with rfl | hp
    · exact fun q => h.zt0 a q n
    · exact h.nz p hp
  · rcases List.mem_cons.mp hp with rfl | hp
    · exact ⟨h.none0 n, d, o, by rw [List.getElem?_set_self (by rw [h.len]; exact hl)], by rw [List.getElem?_set_self hl], ho, r.mono (hide_sub sub), hk⟩
    · obtain ⟨n', d1, o1, h1, h2, h3, h4, h5⟩ := h.own p hp
      have ne : i ≠ p.1 := h.ne_own hi hp
      exact ⟨n', d1, o1, by rw [List.getElem?_set_ne ne]; exact h1, by rw [List.getElem?_set_ne ne]; exact h2, s _ _ (h.onw hp) h3, h4.mono st, h5⟩
  · have ne : i ≠ j := fun t => h2 (by rw [t]; exact List.mem_cons_self)
    rw [List.getElem?_set_ne ne] at h1 ⊢
    obtain ⟨v, g1, g2⟩ := h.rep j d1 h1 fun q => h2 (List.mem_cons_of_mem _ q)
    exact ⟨v, g1, g2.mono st⟩
theorem same_updW {W : Option Wd} {H0 H : Hp} {a : Addr} {o : HO} (s : SameW W H0 H) (n : H0 a = none) : SameW W H0 (upd H a o) := fun b u hb q => by
  rw [upd_ne (ne_of_none q n)]
  exact s b u hb q
theorem hide_updZ {Z : List Addr} {H : Hp} {a : Addr} {o : HO} (ha : a ∈ Z) : hide Z (upd H a o) = hide Z H := by
  funext b
  by_cases q : b ∈ Z
  · rw [hide_in q, hide_in q]
  · rw [hide_ne q, hide_ne q, upd_ne fun t => q (by rw [t]; exact ha)]
theorem DrawOk.updN {W : Option Wd} {H : Hp} {m : MS} {a : Addr} {o : HO} (h : DrawOk W H m) (hn : ∀ w, W = some w → a ≠ w.am ∧ a ≠ w.cA ∧ a ≠ w.gA) : DrawOk W (upd H a o) m := fun w q => by
  obtain ⟨h1, h2, h3⟩ := h w q
  obtain ⟨n1, n2, n3⟩ := hn w q
  exact ⟨by rw [upd_ne n1.symm]; exact h1, rd_upd h2 n2.symm, by rw [upd_ne n3.symm]; exact h3⟩
/-- an address that is not among the start's is none of the machine's -/
theorem EnvOk.nw0 (h : EnvOk K W ms dk Z H0 U O e σ H m) {a : Addr} (n : H0 a = none) : ∀ w, W = some w → a ≠ w.am ∧ a ≠ w.cA ∧ a ≠ w.gA := fun w q => by
  obtain ⟨h1, h2, h3⟩ := h.w0 w q
  exact ⟨fun t => h1 (t ▸ n), fun t => h2 (t ▸ n), fun t => h3 (t ▸ n)⟩
/-- the owned thing is written -/
theorem EnvOk.write (h : EnvOk K W ms dk Z H0 U O e σ H m) {p : Nat × Addr} (hp : p ∈ O) {d' : D} {o' : HO} (r : OwnR K (hide (ZO Z O) H) d' o') (hk : dk p.1 = kO o') :
    EnvOk K W ms dk Z H0 U O (e.set p.1 (some d')) σ (upd H p.2 o') m := by
  have n0 := (h.own p hp).1
  have hin : p.2 ∈ ZO Z O := List.mem_append_right _ (List.mem_map.mpr ⟨p, hp, rfl⟩)
  have hh : hide (ZO Z O) (upd H p.2 o') = hide (ZO Z O) H := hide_updZ hin
  refine ⟨by rw [List.length_set]; exact h.len, h.us, h.und, h.wz, fun z hz => ?_, h.w0, h.dr.updN (h.nw0 n0), same_updW h.same n0, h.dm, h.nds, h.nz, fun q hq => ?_, fun j d1 h1 h2 => ?_⟩
  · by_cases t : z = p.2
    · rw [t, upd_same]
      exact fun x => nomatch x
    · rw [upd_ne t]
      exact h.zt0 z hz
  · rw [hh]
    by_cases t : q = p
    · subst t
      obtain ⟨n', d, o, h1, h2, h3, h4, h5⟩ := h.own q hq
      refine ⟨n', d', o', ?_, h2, upd_same, r, hk⟩
      rw [List.getElem?_set_self]
      exact (List.getElem?_eq_some_iff.mp h1).1
    · obtain ⟨n', d, o, h1, h2, h3, h4, h5⟩ := h.own q hq
      obtain ⟨t1, t2⟩ := h.own_ne hq hp t
      exact ⟨n', d, o, by rw [List.getElem?_set_ne t1.symm]; exact h1, h2, by rw [upd_ne t2]; exact h3, h4, h5⟩
  · rw [hh]
    have ne : p.1 ≠ j := (h.ne_own h2 hp).symm
    rw [List.getElem?_set_ne ne] at h1
    exact h.rep j d1 h1 h2
/-- the owned slot's object -/
theorem EnvOk.owned (h : EnvOk K W ms dk Z H0 U O e σ H m) {i : Nat} (hi : i ∈ U) {d : D} (he : e[i]? = some (some d)) : ∃ a o, (i, a) ∈ O ∧ σ[i]? = some (some (.ref a)) ∧ H a = some o ∧ OwnR K (hide (ZO Z O) H) d o ∧ dk i = kO o := by
  obtain ⟨p, hp, rfl⟩ := List.mem_map.mp ((h.us i).mpr hi)
  obtain ⟨n', d', o, h1, h2, h3, h4, h5⟩ := h.own p hp
  rw [he] at h1
  cases h1
  exact ⟨p.2, o, hp, h2, h3, h4, h5⟩
/-- the temporary object is written -/
theorem EnvOk.turn {a : Addr} (h : EnvOk K W ms dk (a :: Z) H0 U O e σ H m) (n : H0 a = none) {o : HO} : EnvOk K W ms dk (a :: Z) H0 U O e σ (upd H a o) m := by
  have hin : a ∈ ZO (a :: Z) O := List.mem_append_left _ List.mem_cons_self
  have hh : hide (ZO (a :: Z) O) (upd H a o) = hide (ZO (a :: Z) O) H := hide_updZ hin
  refine ⟨h.len, h.us, h.und, h.wz, fun z hz => ?_, h.w0, h.dr.updN (h.nw0 n), same_updW h.same n, h.dm, h.nds, h.nz, fun q hq => ?_, fun j d1 h1 h2 => ?_⟩
  · by_cases t : z = a
    · rw [t, upd_same]
      exact fun x => nomatch x
    · rw [upd_ne t]
      exact h.zt0 z hz
  · rw [hh]
    obtain ⟨n', d, o, h1, h2, h3, h4, h5⟩ := h.own q hq
    have t : q.2 ≠ a := fun t => h.nz q hq (by rw [t]; exact List.mem_cons_self)
    exact ⟨n', d, o, h1, h2, by rw [upd_ne t]; exact h3, h4, h5⟩
  · rw [hh]
    exact h.rep j d1 h1 h2
/-- the temporary object is given free -/
theorem EnvOk.untemp {a : Addr} (h : EnvOk K W ms dk (a :: Z) H0 U O e σ H m) (wz : WIn W Z) : EnvOk K W ms dk Z H0 U O e σ H m := by
  have sub : ∀ b ∈ ZO Z O, b ∈ ZO (a :: Z) O := fun b hb => List.mem_cons_of_mem _ hb
  refine ⟨h.len, h.us, h.und, wz, fun z hz => h.zt0 z (List.mem_cons_of_mem _ hz), h.w0, h.dr, h.same, h.dm, h.nds, fun q hq t => h.nz q hq (List.mem_cons_of_mem _ t), fun q hq => ?_, fun j d1 h1 h2 => ?_⟩
  · obtain ⟨n', d, o, h1, h2, h3, h4, h5⟩ := h.own q hq
    exact ⟨n', d, o, h1, h2, h3, h4.mono (hide_sub sub), h5⟩
  · obtain ⟨v, g1, g2⟩ := h.rep j d1 h1 h2
    exact ⟨v, g1, g2.mono (hide_sub sub)⟩
/-- the same state, seen from now on -/
theorem EnvOk.down (h : EnvOk K W ms dk Z H0 U O e σ H m) : EnvOk K W ms dk Z (hide (O.map (·.2)) H) U O e σ H m := by
  refine ⟨h.len, h.us, h.und, h.wz, h.zt0, fun w q => ?_, h.dr, fun b u _ q => (hide_some q).2, h.dm, h.nds, h.nz, fun p hp => ?_, h.rep⟩
  · obtain ⟨h1, h2, h3⟩ := h.wz w q
    refine ⟨?_, ?_, ?_⟩
    · rw [hide_ne fun t => ?_]
      · exact h.zt0 _ h1
      · obtain ⟨p, hp, e⟩ := List.mem_map.mp t
        exact h.nz p hp (e ▸ h1)
    · rw [hide_ne fun t => ?_]
      · exact h.zt0 _ h2
      · obtain ⟨p, hp, e⟩ := List.mem_map.mp t
        exact h.nz p hp (e ▸ h2)
    · rw [hide_ne fun t => ?_]
      · exact h.zt0 _ h3
      · obtain ⟨p, hp, e⟩ := List.mem_map.mp t
        exact h.nz p hp (e ▸ h3)
  · obtain ⟨n', d, o, h1, h2, h3, h4, h5⟩ := h.own p hp
    exact ⟨hide_in (List.mem_map.mpr ⟨p, hp, rfl⟩), d, o, h1, h2, h3, h4, h5⟩
/-- what was at the start stands there -/
theorem EnvOk.down_same (h : EnvOk K W ms dk Z H0 U O e σ H m) : SameW W H0 (hide (O.map (·.2)) H) := fun b u hb q => by
  rw [hide_ne fun t => ?_]
  · exact h.same b u hb q
  · obtain ⟨p, hp, e⟩ := List.mem_map.mp t
    rw [← e, (h.own p hp).1] at q
    cases q
/-- .. and back -/
theorem EnvOk.up {H1 : Hp} (h : EnvOk K W ms dk Z H1 U O e σ H m) (s : SameW W H0 H1) (w0 : ∀ w, W = some w → H0 w.am ≠ none ∧ H0 w.cA ≠ none ∧ H0 w.gA ≠ none) : EnvOk K W ms dk Z H0 U O e σ H m := by
  refine ⟨h.len, h.us, h.und, h.wz, h.zt0, w0, h.dr, s.trans h.same, h.dm, h.nds, h.nz, fun p hp => ?_, h.rep⟩
  obtain ⟨n', d, o, h1, h2, h3, h4, h5⟩ := h.own p hp
  refine ⟨?_, d, o, h1, h2, h3, h4, h5⟩
  cases r : H0 p.2 with
  | none => rfl
  | some u =>
    have nw := h.nw0 n'
    rw [s p.2 u (fun w q => ⟨(nw w q).1, (nw w q).2.2⟩) r] at n'
    cases n'
/-- what is seen at the start of a loop is seen in its turns -/
theorem EnvOk.seen {Z1 : List Addr} {H1 : Hp} {O1 : List (Nat × Addr)} (h : EnvOk K W ms dk Z (hide (O1.map (·.2)) H1) U O e σ H m) : Same (hide (ZO Z O1) H1) (hide (ZO Z O) H) := fun b u q => by
  obtain ⟨h1, h2⟩ := hide_some q
  have h3 : hide (O1.map (·.2)) H1 b = some u := by
    rw [hide_ne fun t => h1 (List.mem_append_right _ t)]
    exact h2
  have nz : b ∉ Z := fun t => h1 (List.mem_append_left _ t)
  rw [hide_ne fun t => ?_]
  · exact h.same b u (fun w e => ⟨fun t => nz (t ▸ (h.wz w e).1), fun t => nz (t ▸ (h.wz w e).2.2)⟩) h3
  · rcases List.mem_append.mp t with t | t
    · exact nz t
    · obtain ⟨p, hp, e⟩ := List.mem_map.mp t
      rw [← e, (h.own p hp).1] at h3
      cases h3
/-- slots forgotten -/
def wipeE (e : SE) : List Nat → SE
  | [] => e
  | v :: vs => (wipeE e vs).set v none
theorem wipeE_length (e : SE) : ∀ vs : List Nat, (wipeE e vs).length = e.length
  | [] => rfl
  | v :: vs => by unfold wipeE; rw [List.length_set, wipeE_length e vs]
theorem wipeE_out {e : SE} {i : Nat} : ∀ {vs : List Nat}, i ∉ vs → (wipeE e vs)[i]? = e[i]?
  | [], _ => rfl
  | v :: vs, h => by
    have h1 : v ≠ i := fun t => h (by rw [t]; exact List.mem_cons_self)
    have h2 : i ∉ vs := fun t => h (List.mem_cons_of_mem _ t)
    unfold wipeE
    rw [List.getElem?_set_ne h1]
    exact wipeE_out h2
theorem wipeE_some {e : SE} {i : Nat} {d : D} : ∀ {vs : List Nat}, (wipeE e vs)[i]? = some (some d) → e[i]? = some (some d) ∧ i ∉ vs
  | [], h => ⟨h, by simp⟩
  | v :: vs, h => by
    unfold wipeE at h
    by_cases hi : v = i
    · subst hi
      by_cases hv : v < (wipeE e vs).length
      · rw [List.getElem?_set_self hv] at h
        cases h
      · rw [List.getElem?_eq_none (by simpa using hv)] at h
        cases h
    · rw [List.getElem?_set_ne hi] at h
      obtain ⟨h1, h2⟩ := wipeE_some h
      exact ⟨h1, by simp only [List.mem_cons, not_or]; exact ⟨fun e => hi e.symm, h2⟩⟩
theorem wipeS_out {σ : St} {i : Nat} : ∀ {vs : List Nat}, i ∉ vs → (wipe σ vs)[i]? = σ[i]?
  | [], _ => rfl
  | v :: vs, h => by
    have h1 : v ≠ i := fun t => h (by rw [t]; exact List.mem_cons_self)
    have h2 : i ∉ vs := fun t => h (List.mem_cons_of_mem _ t)
    unfold wipe
    rw [List.getElem?_set_ne h1]
    exact wipeS_out h2
theorem EnvOk.wiped (h : EnvOk K W ms dk Z H0 U O e σ H m) {vs : List Nat} (hU : ∀ i ∈ vs, i ∉ U) (hm : ∀ i ∈ vs, i ∉ ms) : EnvOk K W ms dk Z H0 U O (wipeE e vs) (wipe σ vs) H m := by
  refine ⟨by rw [wipeE_length, wipe_length]; exact h.len, h.us, h.und, h.wz, h.zt0, h.w0, h.dr, h.same, fun w q j hj => ?_, h.nds, h.nz, fun p hp => ?_, fun j d h1 h2 => ?_⟩
  · rw [wipeS_out fun t => hm j t hj]
    exact h.dm w q j hj
  · obtain ⟨n', d, o, h1, h2, h3, h4, h5⟩ := h.own p hp
    have np : p.1 ∉ vs := fun t => hU _ t ((h.us _).mp (List.mem_map.mpr ⟨p, hp, rfl⟩))
    exact ⟨n', d, o, by rw [wipeE_out np]; exact h1, by rw [wipeS_out np]; exact h2, h3, h4, h5⟩
  · obtain ⟨h3, h4⟩ := wipeE_some h1
    rw [wipeS_out h4]
    exact h.rep j d h3 h2
end
end VL
/-! the judgements of the value layer: expressions, tests, argument lists -/
namespace VL
open PySem
open PySem.Spec
open L2

structure Ct where
  W : Option Wd
  ms : List Nat
  dk : Nat → Kd
  rd : Kd
  E : L2.St → XK
/-- an exception of a class of the text with fields -/
def ExcRep (K : PySem.W.Frag) (mg : Str → Option Value) (H : Hp) (x : Exn) (C : Value) (od : Option Addr) : Prop :=
  ∃ Ca d vs, mg x.cls = some (.ref Ca) ∧ C = .ref Ca ∧ od = some d ∧ H d = some (.xd ((x.fs.map (·.1)).zip vs)) ∧ DqAll K H vs (x.fs.map (·.2))
def ExK (X : Cx) (c : Ct) (Zs : List Addr) (σ : L2.St) (H : Hp) (x : Exn) (m' : MS) : Prop :=
  ∀ C od H', SameW c.W H H' → DrawOk c.W H' m' → ExcRep X.K X.mg (hide Zs H') x C od → c.E σ C od H'
/-- nothing is raised -/
def EN : L2.St → XK := fun _ => E0
theorem ExK.step {X : Cx} {c : Ct} {Zs : List Addr} {σ : L2.St} {H H1 : Hp} {x : Exn} {m' : MS} (h : ExK X c Zs σ H x m') (s : SameW c.W H H1) : ExK X c Zs σ H1 x m' :=
  fun C od H' s' d r => h C od H' (s.trans s') d r
/-- what is borrowed: the top may be owned -/
def Br (K : PySem.W.Frag) (Zs : List Addr) (H : Hp) (d : D) (v : V) : Prop :=
  Rp K (hide Zs H) d v ∨ (∃ a o, v = .ref a ∧ H a = some o ∧ OwnR K (hide Zs H) d o) ∨ ∃ a xs ds, v = .ref a ∧ d = .tuple ds ∧ (∀ H, SqT K H a xs) ∧ ∀ H, DqAll K H xs ds
theorem Br.mono {K : PySem.W.Frag} {Zs : List Addr} {H H' : Hp} {d : D} {v : V} (h : Br K Zs H d v) (s : Same (hide Zs H) (hide Zs H')) (o : ∀ a o, v = .ref a → H a = some o → H' a = some o) : Br K Zs H' d v := by
  rcases h with h | ⟨a, q, h1, h2, h3⟩ | h
  · exact .inl (h.mono s)
  · exact .inr (.inl ⟨a, q, h1, o a q h1 h2, h3.mono s⟩)
  · exact .inr (.inr h)
/-- every value of a list is so -/
def All2 (R : V → D → Prop) : List V → List D → Prop
  | [], [] => True
  | v :: vs, d :: ds => R v d ∧ All2 R vs ds
  | _, _ => False
theorem All2.mono {R R' : V → D → Prop} (f : ∀ v d, R v d → R' v d) : ∀ {vs : List V} {ds : List D}, All2 R vs ds → All2 R' vs ds
  | [], [], _ => trivial
  | _ :: _, _ :: _, h => ⟨f _ _ h.1, All2.mono f h.2⟩
  | [], _ :: _, h => h.elim
  | _ :: _, [], h => h.elim

section
variable {X : Cx} {c : Ct} {U : List Nat}
/-- an expression: F, what it gives by the values of the names -/
def FR (X : Cx) (c : Ct) (U : List Nat) (k : Kd) (e : Expr) (F : SE → M D) : Prop :=
  ∃ t : TE, PE X e t ∧ ∀ Z H0 O en σ H m Q, EnvOk X.K c.W c.ms c.dk Z H0 U O en σ H m →
    Good (F en m) (fun d m' => ∀ v H', SameW c.W H H' → DrawOk c.W H' m' → Res X.K (hide (ZO Z O) H') k d v → Q v H') (fun x m' => ExK X c (ZO Z O) σ H x m') → t σ H Q
abbrev FE (X : Cx) (c : Ct) (U : List Nat) (e : Expr) (F : SE → M D) : Prop := FR X c U .dat e F
/-- .. that may give an owned thing, borrowed (the machine stands) -/
def FB (X : Cx) (c : Ct) (U : List Nat) (e : Expr) (F : SE → M D) : Prop :=
  ∃ t : TE, PE X e t ∧ ∀ Z H0 O en σ H m Q, EnvOk X.K c.W c.ms c.dk Z H0 U O en σ H m →
    Good (F en m) (fun d m' => ∀ v H', SameW c.W H H' → DrawOk c.W H' m' → (Br X.K (ZO Z O) H' d v ∧ ∀ H'', SameW c.W H' H'' → Br X.K (ZO Z O) H'' d v) → Q v H') (fun x m' => ExK X c (ZO Z O) σ H x m') → t σ H Q
/-- .. that makes a new thing -/
def FO (X : Cx) (c : Ct) (U : List Nat) (k : Kd) (e : Expr) (F : SE → M D) : Prop :=
  ∃ t : TE, PE X e t ∧ ∀ Z H0 O en σ H m Q, EnvOk X.K c.W c.ms c.dk Z H0 U O en σ H m →
    Good (F en m) (fun d m' => ∀ a o H', SameW c.W H H' → DrawOk c.W H' m' → H a = none → H' a = some o → OwnR X.K (hide (a :: ZO Z O) H') d o → kO o = k → Q (.ref a) H') (fun x m' => ExK X c (ZO Z O) σ H x m') → t σ H Q
/-- arguments -/
def FA (X : Cx) (c : Ct) (U : List Nat) (es : List Expr) (ks : List Kd) (F : SE → M (List D)) : Prop :=
  ∃ t : TA, PA X es t ∧ ∀ Z H0 O en σ H m Q, EnvOk X.K c.W c.ms c.dk Z H0 U O en σ H m →
    Good (F en m) (fun ds m' => ∀ vs H', SameW c.W H H' → DrawOk c.W H' m' → AllK X.K (hide (ZO Z O) H') ks vs ds → Q vs H') (fun x m' => ExK X c (ZO Z O) σ H x m') → t σ H Q
def FAb (X : Cx) (c : Ct) (U : List Nat) (es : List Expr) (F : SE → M (List D)) : Prop :=
  ∃ t : TA, PA X es t ∧ ∀ Z H0 O en σ H m Q, EnvOk X.K c.W c.ms c.dk Z H0 U O en σ H m →
    Good (F en m) (fun ds m' => ∀ vs H', SameW c.W H H' → DrawOk c.W H' m' → (∀ H'', SameW c.W H' H'' → All2 (fun v d => Br X.K (ZO Z O) H'' d v) vs ds) → Q vs H') (fun x m' => ExK X c (ZO Z O) σ H x m') → t σ H Q
/-- a test -/
def FT (X : Cx) (c : Ct) (U : List Nat) (e : Expr) (F : SE → M Bool) : Prop :=
  ∃ t : TT, PT X e t ∧ ∀ Z H0 O en σ H m Q, EnvOk X.K c.W c.ms c.dk Z H0 U O en σ H m →
    Good (F en m) (fun b m' => ∀ H', SameW c.W H H' → DrawOk c.W H' m' → Q b H') (fun x m' => ExK X c (ZO Z O) σ H x m') → t σ H Q
def FW (X : Cx) (c : Ct) (U : List Nat) (e : Expr) (F : SE → M Bool) : Prop :=
  ∃ t : TT, PW X e t ∧ ∀ Z H0 O en σ H m Q, EnvOk X.K c.W c.ms c.dk Z H0 U O en σ H m →
    Good (F en m) (fun b m' => ∀ H', SameW c.W H H' → DrawOk c.W H' m' → Q b H') (fun x m' => ExK X c (ZO Z O) σ H x m') → t σ H Q

/-! ### the functions that the readings are made of -/
def eVar (i : Nat) : SE → M D := fun en => match en[i]? with
  | some (some d) => pure d
  | _ => M.no
def eC (d : D) : SE → M D := fun _ => pure d
def e1 (g : D → Option D) (F : SE → M D) : SE → M D := fun en => do
  let a ← F en
  lft (g a)
def e2 (g : D → D → Option D) (F G : SE → M D) : SE → M D := fun en => do
  let a ← F en
  let b ← G en
  lft (g a b)
def aN : SE → M (List D) := fun _ => pure []
def aC (F : SE → M D) (G : SE → M (List D)) : SE → M (List D) := fun en => do
  let a ← F en
  let b ← G en
  pure (a :: b)
def eL (g : List D → Option D) (F : SE → M (List D)) : SE → M D := fun en => do
  let a ← F en
  lft (g a)
def eIf (T : SE → M Bool) (F G : SE → M D) : SE → M D := fun en => do
  let b ← T en
  if b = true then F en else G en
def tAnd2 (F G : SE → M Bool) : SE → M Bool := fun en => do
  let b ← F en
  if b = true then G en else pure false
def tOr2 (F G : SE → M Bool) : SE → M Bool := fun en => do
  let b ← F en
  if b = true then pure true else G en
def tNot1 (F : SE → M Bool) : SE → M Bool := fun en => do
  let b ← F en
  pure (!b)
def asB : D → Option Bool
  | .bool b => some b
  | _ => none
/-- the truth of a value -/
def truD : D → Option Bool
  | .none => some false
  | .bool b => some b
  | .int i => some (i != 0)
  | .list xs => some (!xs.isEmpty)
  | .tuple xs => some (!xs.isEmpty)
  | _ => none
def tV (g : D → Option Bool) (F : SE → M D) : SE → M Bool := fun en => do
  let a ← F en
  lft (g a)
def eB (F : SE → M Bool) : SE → M D := fun en => do
  let b ← F en
  pure (.bool b)

/-! ### from one to another -/
theorem eVar_good {i : Nat} {en : SE} {m : MS} {P : D → MS → Prop} {R : Exn → MS → Prop} (h : Good (eVar i en m) P R) : ∃ d, en[i]? = some (some d) ∧ P d m := by
  unfold eVar at h
  cases q : en[i]? with
  | none => rw [q] at h; exact h.elim
  | some o =>
    cases o with
    | none => rw [q] at h; exact h.elim
    | some d => rw [q] at h; exact ⟨d, rfl, h⟩
theorem fb {k : Kd} {e : Expr} {F : SE → M D} (h : FR X c U k e F) : FB X c U e F := by
  obtain ⟨t, p, r⟩ := h
  refine ⟨t, p, fun Z H0 O en σ H m Q hE hG => r Z H0 O en σ H m Q hE (hG.mono (fun d m' k v H' s1 d1 q => k v H' s1 d1 ⟨.inl q.rp, fun H'' s2 => .inl (q.rp.mono (s2.hide hE.wzo))⟩) fun _ _ k => k)⟩
theorem fr_of {k : Kd} {e : Expr} {F : SE → M D} (h : FO X c U k e F) : FR X c U k e F := by
  obtain ⟨t, p, r⟩ := h
  refine ⟨t, p, fun Z H0 O en σ H m Q hE hG => r Z H0 O en σ H m Q hE (hG.mono (fun d m' g a o H' s1 d1 n ha q hk => g _ H' s1 d1 ?_) fun _ _ k => k)⟩
  have na : a ∉ ZO Z O := fun z => hE.zt a z n
  rw [← hk]
  exact OwnR.res (q.mono (hide_sub fun b hb => List.mem_cons_of_mem _ hb)) (by rw [hide_ne na]; exact ha)
theorem fe_of {e : Expr} {F : SE → M D} (h : FO X c U .dat e F) : FE X c U e F := fr_of h
/-- a stronger kind is data too -/
def toDat (k : Kd) : Bool := match k with
  | .dat => true
  | .nd => true
  | .pl => true
  | _ => false
theorem fe_w {k : Kd} {e : Expr} {F : SE → M D} (h : FR X c U k e F) (hk : toDat k = true := by rfl) : FE X c U e F := by
  obtain ⟨t, p, r⟩ := h
  refine ⟨t, p, fun Z H0 O en σ H m Q hE hG => r Z H0 O en σ H m Q hE (hG.mono (fun d m' g v H' s1 d1 q => g v H' s1 d1 ?_) fun _ _ k => k)⟩
  cases k with
  | dat => exact q
  | dic => cases hk
  | dit => cases hk
  | nd => exact q.1
  | pl => exact Dz.dq q
theorem fr_var (k : Kd) (i : Nat) {x : Str} {pos : Pos} (hU : i ∉ U := by decide) (hk : c.dk i = k := by rfl) (hN : X.N[i]? = some x := by rfl) (hv : Vis X.env.scope x := by first | exact Or.inl rfl | exact Or.inr (Or.inl rfl) | exact Or.inr (Or.inr rfl)) (hd : (x == ("__debug__" : Str)) = false := by decide)
    (hcd : (x == ("__classdict__" : Str)) = false := by decide) : FR X c U k (.Name x pos) (eVar i) := by
  refine ⟨tVar i, pe_var hN hv hd hcd, fun Z H0 O en σ H m Q hE hG => ?_⟩
  obtain ⟨d, he, hG⟩ := eVar_good hG
  obtain ⟨v, h1, h2⟩ := hE.rep i d he hU
  rw [hk] at h2
  exact ⟨v, h1, hG v H (SameW.refl _ _) hE.dr h2⟩
theorem fe_var (i : Nat) {x : Str} {pos : Pos} (hU : i ∉ U := by decide) (hk : c.dk i = .dat := by rfl) (hN : X.N[i]? = some x := by rfl) (hv : Vis X.env.scope x := by first | exact Or.inl rfl | exact Or.inr (Or.inl rfl) | exact Or.inr (Or.inr rfl)) (hd : (x == ("__debug__" : Str)) = false := by decide)
    (hcd : (x == ("__classdict__" : Str)) = false := by decide) : FE X c U (.Name x pos) (eVar i) := fr_var .dat i hU hk hN hv hd hcd
theorem fb_own (i : Nat) {x : Str} {pos : Pos} (hU : i ∈ U := by decide) (hN : X.N[i]? = some x := by rfl) (hv : Vis X.env.scope x := by first | exact Or.inl rfl | exact Or.inr (Or.inl rfl) | exact Or.inr (Or.inr rfl)) (hd : (x == ("__debug__" : Str)) = false := by decide)
    (hcd : (x == ("__classdict__" : Str)) = false := by decide) : FB X c U (.Name x pos) (eVar i) := by
  refine ⟨tVar i, pe_var hN hv hd hcd, fun Z H0 O en σ H m Q hE hG => ?_⟩
  obtain ⟨d, he, kG⟩ := eVar_good hG
  have hi : i ∈ O.map (·.1) := (hE.us i).mpr hU
  obtain ⟨p, hp, hpi⟩ := List.mem_map.mp hi
  subst hpi
  obtain ⟨_, d', o, h1, h2, h3, h4, _⟩ := hE.own p hp
  rw [he] at h1
  cases h1
  exact ⟨_, h2, kG _ H (SameW.refl _ _) hE.dr ⟨.inr (.inl ⟨p.2, o, rfl, h3, h4⟩), fun H'' s => .inr (.inl ⟨p.2, o, rfl, s _ _ (hE.onw hp) h3, h4.mono (s.hide hE.wzo)⟩)⟩⟩
/-! ### constants -/
theorem fe_k {e : Expr} {v : V} {d : D} (h : PE X e (tC v)) (r : ∀ H, Dq X.K H v d) : FE X c U e (eC d) :=
  ⟨_, h, fun Z H0 O en σ H m Q hE hG => hG v H (SameW.refl _ _) hE.dr (r _)⟩
theorem fe_int {i : Int} {j pos} : FE X c U (.Constant (.int i) j pos) (eC (.int i)) := fe_k pe_int fun _ => .int i
theorem fe_bl {b : Bool} {j pos} : FE X c U (.Constant (.bool b) j pos) (eC (.bool b)) := fe_k pe_bl fun _ => .bl b
theorem fe_non {j pos} : FE X c U (.Constant .none j pos) (eC .none) := fe_k pe_non fun _ => .non
theorem fe_str {x : Str} {j pos} : FE X c U (.Constant (.str x) j pos) (eC (.str x)) := fe_k pe_str fun _ => .str x
/-- a number of the module's -/
theorem fe_gi {x : Str} {i : Int} {u : Value} {pos : Pos} (hm : X.mg x = some u) (hu : ∃ t, u = .int i t) (hg : Gl X x := by rfl) (hd : (x == ("__debug__" : Str)) = false := by decide) : FE X c U (.Name x pos) (eC (.int i)) :=
  fe_k (pe_glob (v := .int i) hg hm hu hd) fun _ => .int i
/-- a tuple of the module's -/
theorem fb_gt {x : Str} {a : Addr} {xs : List V} {ds : List D} {pos : Pos} (hm : X.mg x = some (.ref a)) (h1 : ∀ H, SqT X.K H a xs) (h2 : ∀ H, DqAll X.K H xs ds) (hg : Gl X x := by rfl) (hd : (x == ("__debug__" : Str)) = false := by decide) : FB X c U (.Name x pos) (eC (.tuple ds)) :=
  ⟨_, pe_glob (v := .ref a) hg hm rfl hd, fun Z H0 O en σ H m Q hE hG => hG _ H (SameW.refl _ _) hE.dr ⟨.inr (.inr ⟨a, xs, ds, rfl, rfl, h1, h2⟩), fun _ _ => .inr (.inr ⟨a, xs, ds, rfl, rfl, h1, h2⟩)⟩⟩

/-! ### operators -/
/-- what an operator of two values gives, by the data -/
def OpV (X : Cx) (f : Value → Value → Sem Value) (g : D → D → Option D) : Prop :=
  ∃ r : R2, OpR X f r ∧ ∀ (Zs : List Addr) (x y : V) (H : Hp) (a b d : D) (Q : VK), (∀ z ∈ Zs, H z ≠ none) → Br X.K Zs H a x → Br X.K Zs H b y → g a b = some d →
    (∀ v H', Same H H' → Dq X.K (hide Zs H') v d → Q v H') → r x y H Q
/-- both arms -/
theorem OpV.or {f : Value → Value → Sem Value} {g g' : D → D → Option D} (h : OpV X f g) (h' : OpV X f g') : OpV X f (fun a b => (g a b).or (g' a b)) := by
  obtain ⟨r, h1, h2⟩ := h
  obtain ⟨r', h1', h2'⟩ := h'
  refine ⟨_, h1.or h1', fun Zs x y H a b d Q hz ha hb hg k => ?_⟩
  cases e : g a b with
  | some d' =>
    have hg : (g a b).or (g' a b) = some d := hg
    rw [e] at hg
    cases hg
    exact .inl (h2 Zs x y H a b _ Q hz ha hb e k)
  | none =>
    have hg : (g a b).or (g' a b) = some d := hg
    rw [e] at hg
    exact .inr (h2' Zs x y H a b d Q hz ha hb hg k)
theorem fe_two {w : Expr} {ea eb : Expr} {F G : SE → M D} {g : D → D → Option D} {f : Value → Value → Sem Value} (ha : FB X c U ea F) (hb : FB X c U eb G) (ho : OpV X f g)
    (mk : ∀ (r : R2) (ta tb : TE), OpR X f r → PE X ea ta → PE X eb tb → PE X w (tOp r ta tb)) : FE X c U w (e2 g F G) := by
  obtain ⟨ta, pa, ra⟩ := ha
  obtain ⟨tb, pb, rb⟩ := hb
  obtain ⟨r, po, ro⟩ := ho
  refine ⟨_, mk r ta tb po pa pb, fun Z H0 O en σ H m Q hE hG => ?_⟩
  refine ra Z H0 O en σ H m _ hE (hG.bd.mono (fun a m1 k1 x H1 s1 d1 q1 => ?_) fun _ _ k => k)
  refine rb Z H0 O en σ H1 m1 _ (hE.step s1 d1) (k1.bd.mono (fun b m2 k2 y H2 s2 d2 q2 => ?_) fun _ _ k => k.step s1)
  obtain ⟨d, hg, k3⟩ := k2.lft
  exact ro _ x y H2 a b d Q (hE.step (s1.trans s2) d2).zt (q1.2 H2 s2) q2.1 hg fun v H3 s3 q3 => k3 v H3 ((s1.trans s2).trans (.of s3)) (d2.same s3) q3
/-- .. where both sides are tracked wholly -/
def OpS (X : Cx) (f : Value → Value → Sem Value) (g : D → D → Option D) : Prop :=
  ∃ r : R2, OpR X f r ∧ ∀ (Zs : List Addr) (x y : V) (H : Hp) (a b d : D) (Q : VK), (∀ z ∈ Zs, H z ≠ none) → Dq X.K (hide Zs H) x a → Dq X.K (hide Zs H) y b → g a b = some d →
    (∀ v H', Same H H' → Dq X.K (hide Zs H') v d → Q v H') → r x y H Q
theorem fe_binS {op : Operator} {ea eb : Expr} {pos : Pos} {F G : SE → M D} {g : D → D → Option D} (ho : OpS X (binaryOp op) g) (ha : FE X c U ea F) (hb : FE X c U eb G) : FE X c U (.BinOp ea op eb pos) (e2 g F G) := by
  obtain ⟨ta, pa, ra⟩ := ha
  obtain ⟨tb, pb, rb⟩ := hb
  obtain ⟨r, po, ro⟩ := ho
  refine ⟨_, pe_op po pa pb, fun Z H0 O en σ H m Q hE hG => ?_⟩
  refine ra Z H0 O en σ H m _ hE (hG.bd.mono (fun a m1 k1 x H1 s1 d1 q1 => ?_) fun _ _ k => k)
  refine rb Z H0 O en σ H1 m1 _ (hE.step s1 d1) (k1.bd.mono (fun b m2 k2 y H2 s2 d2 q2 => ?_) fun _ _ k => k.step s1)
  obtain ⟨d, hg, k3⟩ := k2.lft
  exact ro _ x y H2 a b d Q (hE.step (s1.trans s2) d2).zt (Dq.mono (s2.hide hE.wzo) q1) q2 hg fun v H3 s3 q3 => k3 v H3 ((s1.trans s2).trans (.of s3)) (d2.same s3) q3
theorem fe_bin {op : Operator} {ea eb : Expr} {pos : Pos} {F G : SE → M D} {g : D → D → Option D} (ho : OpV X (binaryOp op) g) (ha : FB X c U ea F) (hb : FB X c U eb G) : FE X c U (.BinOp ea op eb pos) (e2 g F G) :=
  fe_two ha hb ho fun _ _ _ o a b => pe_op o a b
theorem fe_cmp {op : CmpOp} {ea eb : Expr} {pos : Pos} {F G : SE → M D} {g : D → D → Option D} (ho : OpV X (compareOp op) g) (ha : FB X c U ea F) (hb : FB X c U eb G) (hm : behindInMarks op eb = false := by first | exact nomark _ | with_unfolding_all rfl) :
    FE X c U (.Compare ea [op] [eb] pos) (e2 g F G) := fe_two ha hb ho fun _ _ _ o a b => pe_cmpR o a b hm
/-- a comparison as a test -/
theorem ft_cmp {op : CmpOp} {ea eb : Expr} {pos : Pos} {F G : SE → M D} {g : D → D → Option D} (ho : OpV X (compareOp op) g) (ha : FB X c U ea F) (hb : FB X c U eb G) (hm : behindInMarks op eb = false := by first | exact nomark _ | with_unfolding_all rfl) :
    FT X c U (.Compare ea [op] [eb] pos) (tV asB (e2 g F G)) := by
  obtain ⟨ta, pa, ra⟩ := ha
  obtain ⟨tb, pb, rb⟩ := hb
  obtain ⟨r, po, ro⟩ := ho
  refine ⟨_, pt_cmpR po pa pb hm, fun Z H0 O en σ H m Q hE hG => ?_⟩
  refine ra Z H0 O en σ H m _ hE (hG.bd.bd.mono (fun a m1 k1 x H1 s1 d1 q1 => ?_) fun _ _ k => k)
  refine rb Z H0 O en σ H1 m1 _ (hE.step s1 d1) (k1.bd.mono (fun b m2 k2 y H2 s2 d2 q2 => ?_) fun _ _ k => k.step s1)
  obtain ⟨d, hg, k3⟩ := k2.lft
  obtain ⟨bo, hbo, k4⟩ := k3.lft
  refine ro _ x y H2 a b d _ (hE.step (s1.trans s2) d2).zt (q1.2 H2 s2) q2.1 hg fun v H3 s3 q3 => ?_
  have e : d = .bool bo := by
    cases d <;> first | cases hbo | skip
    rfl
  subst e
  cases (show Dq X.K _ v (.bool bo) from q3)
  exact ⟨bo, rfl, k4 H3 ((s1.trans s2).trans (.of s3)) (d2.same s3)⟩
/-- a < b < c -/
def e3c (g g' : D → D → Option D) (F G L : SE → M D) : SE → M Bool := fun en => do
  let a ← F en
  let b ← G en
  let k ← lft ((g a b).bind asB)
  if k = true then do
    let d ← L en
    lft ((g' b d).bind asB)
  else pure false
theorem asB_some {d : D} {b : Bool} (h : asB d = some b) : d = .bool b := by
  cases d <;> first | cases h | skip
  rfl
theorem ft_chain {op op' : CmpOp} {ea eb ec : Expr} {pos : Pos} {F G L : SE → M D} {g g' : D → D → Option D} (ho : OpV X (compareOp op) g) (ho' : OpV X (compareOp op') g') (ha : FB X c U ea F) (hb : FB X c U eb G) (hc : FB X c U ec L)
    (hm : lastMarks [op, op'] [eb, ec] = false := by with_unfolding_all rfl) : FT X c U (.Compare ea [op, op'] [eb, ec] pos) (e3c g g' F G L) := by
  obtain ⟨ta, pa, ra⟩ := ha
  obtain ⟨tb, pb, rb⟩ := hb
  obtain ⟨tc, pc, rc⟩ := hc
  obtain ⟨r, po, ro⟩ := ho
  obtain ⟨r', po', ro'⟩ := ho'
  refine ⟨_, pt_chain po po' pa pb pc hm, fun Z H0 O en σ H m Q hE hG => ?_⟩
  refine ra Z H0 O en σ H m _ hE (hG.bd.mono (fun a m1 k1 x H1 s1 d1 q1 => ?_) fun _ _ k => k)
  refine rb Z H0 O en σ H1 m1 _ (hE.step s1 d1) (k1.bd.mono (fun b m2 k2 y H2 s2 d2 q2 => ?_) fun _ _ k => k.step s1)
  obtain ⟨k, hk, k3⟩ := k2.bd.lft
  obtain ⟨d, hg, hd⟩ := Option.bind_eq_some_iff.mp hk
  obtain rfl := asB_some hd
  refine ro _ x y H2 a b _ _ (hE.step (s1.trans s2) d2).zt (q1.2 H2 s2) q2.1 hg fun v H3 s3 q3 => ?_
  cases (show Dq X.K _ v (.bool k) from q3)
  have d3 := d2.same s3
  have s13 : SameW c.W H H3 := (s1.trans s2).trans (.of s3)
  refine ⟨k, rfl, ?_⟩
  cases k with
  | false =>
    have k3 : Good ((pure false : M Bool) m2) _ _ := k3
    exact ⟨false, rfl, k3 H3 s13 d3⟩
  | true =>
    refine rc Z H0 O en σ H3 m2 _ (hE.step s13 d3) (Good.mono (Good.bd k3) (fun z m4 k4 w H4 s4 d4 q4 => ?_) fun _ _ k => ExK.step k s13)
    obtain ⟨bo, hbo, k5⟩ := k4.lft
    obtain ⟨d', hg', hd'⟩ := Option.bind_eq_some_iff.mp hbo
    obtain rfl := asB_some hd'
    refine ro' _ y w H4 b z _ _ (hE.step (s13.trans s4) d4).zt (q2.2 H4 ((SameW.of s3).trans s4)) q4.1 hg' fun v H5 s5 q5 => ?_
    cases (show Dq X.K _ v (.bool bo) from q5)
    exact ⟨bo, rfl, k5 H5 ((s13.trans s4).trans (.of s5)) (d4.same s5)⟩
end
end VL
/-! the value layer: operators, calls, displays, tests -/
namespace VL
open PySem
open PySem.Spec
open L2

section
variable {K : PySem.W.Frag} {Zs : List Addr} {H : Hp} {v : V}
theorem Br.flat {d : D} (h : Br K Zs H d v) (n : ∀ ds, d ≠ .list ds ∧ d ≠ .tuple ds) (nd : noDic d = true) : Dq K (hide Zs H) v d := by
  rcases h with h | ⟨a, o, _, _, h⟩ | ⟨a, xs, ds, _, e, _⟩
  · exact h.dq nd
  · cases h with
    | lst ds vs h => exact absurd rfl (n ds).1
    | dic kvs o h => cases nd
  · exact absurd e (n ds).2
theorem Br.int {i : Int} (h : Br K Zs H (.int i) v) : v = .int i := by
  cases h.flat (fun ds => ⟨(fun q => by cases q), (fun q => by cases q)⟩) rfl
  rfl
theorem Br.bl {i : Bool} (h : Br K Zs H (.bool i) v) : v = .bl i := by
  cases h.flat (fun ds => ⟨(fun q => by cases q), (fun q => by cases q)⟩) rfl
  rfl
theorem Br.str {i : Str} (h : Br K Zs H (.str i) v) : v = .str i := by
  cases h.flat (fun ds => ⟨(fun q => by cases q), (fun q => by cases q)⟩) rfl
  rfl
theorem Br.non (h : Br K Zs H .none v) : v = .non := by
  cases h.flat (fun ds => ⟨(fun q => by cases q), (fun q => by cases q)⟩) rfl
  rfl
theorem Br.tup {ds : List D} (h : Br K Zs H (.tuple ds) v) : ∃ a xs, v = .ref a ∧ SqT K H a xs ∧ DqAll K (hide Zs H) xs ds ∧ ∀ H', Same (hide Zs H) (hide Zs H') → SqT K H' a xs := by
  rcases h with h | ⟨a, o, _, _, h⟩ | ⟨a, xs, ds, e1, e2, h1, h2⟩
  · cases (show Dq K _ v (.tuple ds) from h) with
    | tup h1 h2 => exact ⟨_, _, rfl, (.inl (same_rd (hide_same _ _) h1)), h2, fun H' s => .inl (same_rd (hide_same _ _) (same_rd s h1))⟩
  · cases h
  · cases e2
    exact ⟨a, xs, e1, h1 _, h2 _, fun H' _ => h1 _⟩
theorem Br.lst {ds : List D} (h : Br K Zs H (.list ds) v) : ∃ a xs, v = .ref a ∧ SqL K H a xs ∧ DqAll K (hide Zs H) xs ds := by
  rcases h with h | ⟨a, o, e, h1, h⟩ | ⟨_, _, _, _, e2, _⟩
  · cases (show Dq K _ v (.list ds) from h) with
    | lst h1 h2 => exact ⟨_, _, rfl, .inl (same_rd (hide_same _ _) h1), h2⟩
  · cases h with
    | lst ds vs h => exact ⟨a, vs, e, SqL.of h1, h⟩
  · cases e2
theorem nd0_shallow {d : D} (n : nd0 d = true) : noDic d = true := by
  cases d with
  | dict _ => unfold nd0 at n; cases n
  | _ => rfl
/-- as data in the heap itself -/
theorem Br.dp {d : D} (h : Br K Zs H d v) (n : nd0 d = true) : Dp K H v d := by
  rcases h with h | ⟨a, o, e, h1, h⟩ | ⟨a, xs, ds, e1, e2, h1, h2⟩
  · exact (Dq.mono (hide_same _ _) (h.dq (nd0_shallow n))).dp n
  · cases h with
    | lst ds vs h =>
      subst e
      unfold nd0 at n
      exact .lst (SqL.of h1) ((DqAll.mono (hide_same _ _) h).dp n)
    | dic kvs o h => unfold nd0 at n; cases n
  · subst e1
    subst e2
    unfold nd0 at n
    exact .tup (h1 _) ((h2 _).dp n)
end
mutual
theorem nd0_lay : ∀ d : PyData, d.canLay0 = true → nd0 d = true
  | .list xs, h => by
    simp only [PyData.canLay0] at h
    unfold nd0
    exact nd0s_lay xs h
  | .tuple xs, h => by
    simp only [PyData.canLay0] at h
    unfold nd0
    exact nd0s_lay xs h
  | .dict _, h => by simp [PyData.canLay0] at h
  | .none, _ => by unfold nd0; rfl
  | .bool _, _ => by unfold nd0; rfl
  | .int _, _ => by unfold nd0; rfl
  | .str _, _ => by unfold nd0; rfl
theorem nd0s_lay : ∀ ds : List PyData, PyData.canLayAll0 ds = true → nd0s ds = true
  | [], _ => by unfold nd0s; rfl
  | d :: ds, h => by
    simp only [PyData.canLayAll0] at h
    obtain ⟨h1, h2⟩ := Bool.and_eq_true_iff.mp h
    unfold nd0s
    rw [nd0_lay d h1, nd0s_lay ds h2]
    rfl
end
theorem noDic_of {d : D} (h : SeqAt.shaped d = true) : nd0 d = true := by
  unfold SeqAt.shaped at h
  exact nd0_lay d (Bool.and_eq_true_iff.mp h).1
/-- a new tuple, a new list -/
theorem new_tup {K : PySem.W.Frag} {Zs : List Addr} {H : Hp} {p : Addr} {xs : List V} {ds : List D} (hz : ∀ z ∈ Zs, H z ≠ none) (hp : H p = none) (h : DqAll K (hide Zs H) xs ds) : Dq K (hide Zs (upd H p (.tup xs))) (.ref p) (.tuple ds) :=
  .tup (Rd.of (hide_new hz hp)) (DqAll.mono (hide_push0 hp) h)
theorem new_lst {K : PySem.W.Frag} {Zs : List Addr} {H : Hp} {p : Addr} {xs : List V} {ds : List D} (hz : ∀ z ∈ Zs, H z ≠ none) (hp : H p = none) (h : DqAll K (hide Zs H) xs ds) : Dq K (hide Zs (upd H p (.lst xs))) (.ref p) (.list ds) :=
  .lst (Rd.of (hide_new hz hp)) (DqAll.mono (hide_push0 hp) h)
def lineN : Nat := 16000000
theorem lineN_le : lineN ≤ sizeLine := by rw [sizeLine_eq]; decide

/-! ### the operators' functions -/
def addD : D → D → Option D
  | .int i, .int j => some (.int (i + j))
  | .tuple xs, .tuple ys => if xs.length + ys.length ≤ lineN then some (.tuple (xs ++ ys)) else none
  | .str x, .str y => if x.length + y.length ≤ lineN then some (.str (x ++ y)) else none
  | _, _ => none
def catD : D → D → Option D
  | .list xs, .list ys => if xs.length + ys.length ≤ lineN then some (.list (xs ++ ys)) else none
  | _, _ => none
def subD : D → D → Option D
  | .int i, .int j => some (.int (i - j))
  | _, _ => none
def mulD : D → D → Option D
  | .int i, .int j => if (-(2 ^ 64) < i ∧ i < 2 ^ 64) ∨ (-(2 ^ 64) < j ∧ j < 2 ^ 64) then some (.int (i * j)) else none
  | _, _ => none
def mulWD : D → D → Option D
  | .int i, .int j => if i.natAbs.log2 + j.natAbs.log2 < 1000000 then some (.int (i * j)) else none
  | _, _ => none
def fdivD : D → D → Option D
  | .int i, .int j => if 0 < j ∧ j < 1073741824 then some (.int (i / j)) else none
  | _, _ => none
def fdivWD : D → D → Option D
  | .int i, .int j => if 0 < j ∧ j.natAbs.log2 < 9000 then some (.int (i / j)) else none
  | _, _ => none
def modD : D → D → Option D
  | .int i, .int j => if 0 < j then some (.int (i % j)) else none
  | _, _ => none
def powD : D → D → Option D
  | .int i, .int j => if 0 ≤ j ∧ j ≤ 1000000 ∧ i.natAbs < 2 ^ 64 then some (.int (i ^ j.toNat)) else none
  | _, _ => none
def negD : D → Option D
  | .int i => some (.int (-i))
  | _ => none
def cmpI (p : Int → Int → Bool) : D → D → Option D
  | .int i, .int j => some (.bool (p i j))
  | _, _ => none
def ltD := cmpI fun i j => decide (i < j)
def leD := cmpI fun i j => decide (i ≤ j)
def gtD := cmpI fun i j => decide (j < i)
def geD := cmpI fun i j => decide (j ≤ i)
def eqD (a b : D) : Option D := if (SeqAt.shaped a && SeqAt.shaped b) = true then some (.bool (PyData.eqv a b)) else none
def neD (a b : D) : Option D := if (SeqAt.shaped a && SeqAt.shaped b) = true then some (.bool (!PyData.eqv a b)) else none
def itemsD : D → Option (List D)
  | .list xs => some xs
  | .tuple xs => some xs
  | _ => none
def inD (a b : D) : Option D := (itemsD b).bind fun xs => if (SeqAt.shaped a && SeqAt.shaped b) = true then some (.bool (xs.any fun z => PyData.eqv z a)) else none
def notInD (a b : D) : Option D := (itemsD b).bind fun xs => if (SeqAt.shaped a && SeqAt.shaped b) = true then some (.bool (!xs.any fun z => PyData.eqv z a)) else none
def isNone : D → Bool
  | .none => true
  | _ => false
def isN (a b : D) : Option D := match b with
  | .none => some (.bool (isNone a))
  | _ => none
def isNN (a b : D) : Option D := match b with
  | .none => some (.bool (!isNone a))
  | _ => none
theorem Br.isNone {K : PySem.W.Frag} {Zs : List Addr} {H : Hp} {x : V} {a : D} (ha : Br K Zs H a x) : decide (x = .non) = VL.isNone a := by
  cases a with
  | none => rw [ha.non]; rfl
  | bool b => rw [ha.bl]; rfl
  | int b => rw [ha.int]; rfl
  | str b => rw [ha.str]; rfl
  | list b => obtain ⟨p, _, rfl, _⟩ := ha.lst; rfl
  | tuple b => obtain ⟨p, _, rfl, _⟩ := ha.tup; rfl
  | dict b =>
    rcases ha with (⟨p, _, rfl, _⟩ | h) | ⟨p, _, rfl, _⟩ | ⟨p, _, _, rfl, _⟩ <;> first | rfl | (cases (show Dq K _ x (.dict b) from h) <;> rfl)

section
variable {X : Cx}
/-- a rule of two ints -/
theorem opv_ints {f : Value → Value → Sem Value} {C : Int → Int → Prop} {g : Int → Int → V} {G : D → D → Option D} (h : OpR X f (rI C g))
    (hG : ∀ a b d, G a b = some d → ∃ i j, a = .int i ∧ b = .int j ∧ C i j ∧ ∀ H, Dq X.K H (g i j) d) : OpV X f G :=
  ⟨_, h, fun Zs x y H a b d Q hz ha hb hg k => by
    obtain ⟨i, j, rfl, rfl, hc, r⟩ := hG a b d hg
    exact ⟨i, j, ha.int, hb.int, hc, k _ _ (Same.refl _) (r _)⟩⟩
theorem opv_ints0 {f : Value → Value → Sem Value} {g : Int → Int → V} {G : D → D → Option D} (h : OpR X f (rI0 g))
    (hG : ∀ a b d, G a b = some d → ∃ i j, a = .int i ∧ b = .int j ∧ ∀ H, Dq X.K H (g i j) d) : OpV X f G :=
  ⟨_, h, fun Zs x y H a b d Q hz ha hb hg k => by
    obtain ⟨i, j, rfl, rfl, r⟩ := hG a b d hg
    exact ⟨i, j, ha.int, hb.int, k _ _ (Same.refl _) (r _)⟩⟩
theorem two_ints {C : Int → Int → Prop} [∀ i j, Decidable (C i j)] {g : Int → Int → D} {G : D → D → Option D} (hG : ∀ a b, G a b = match a, b with
    | .int i, .int j => if C i j then some (g i j) else none
    | _, _ => none) {a b d : D} (h : G a b = some d) : ∃ i j, a = .int i ∧ b = .int j ∧ C i j ∧ d = g i j := by
  rw [hG] at h
  cases a <;> cases b <;> first | cases h | skip
  rename_i i j
  have h : (if C i j then some (g i j) else none) = some d := h
  by_cases hc : C i j
  · rw [if_pos hc] at h
    cases h
    exact ⟨i, j, rfl, rfl, hc, rfl⟩
  · rw [if_neg hc] at h
    cases h
theorem ov_sub : OpV X (binaryOp .Sub) subD := opv_ints0 op_sub fun a b d h => by
  cases a <;> cases b <;> first | cases h | skip
  exact ⟨_, _, rfl, rfl, fun H => .int _⟩
theorem ov_mul : OpV X (binaryOp .Mult) mulD := opv_ints op_mul fun a b d h => by
  obtain ⟨i, j, e1, e2, hc, rfl⟩ := two_ints (G := mulD) (C := fun i j => (-(2 ^ 64) < i ∧ i < 2 ^ 64) ∨ (-(2 ^ 64) < j ∧ j < 2 ^ 64)) (g := fun i j => .int (i * j)) (fun a b => by cases a <;> cases b <;> rfl) h
  exact ⟨i, j, e1, e2, hc, fun H => .int _⟩
theorem ov_mulW : OpV X (binaryOp .Mult) mulWD := opv_ints op_mulW fun a b d h => by
  obtain ⟨i, j, e1, e2, hc, rfl⟩ := two_ints (G := mulWD) (C := fun i j => i.natAbs.log2 + j.natAbs.log2 < 1000000) (g := fun i j => .int (i * j)) (fun a b => by cases a <;> cases b <;> rfl) h
  exact ⟨i, j, e1, e2, hc, fun H => .int _⟩
theorem ov_fdiv : OpV X (binaryOp .FloorDiv) fdivD := opv_ints op_fdiv fun a b d h => by
  obtain ⟨i, j, e1, e2, hc, rfl⟩ := two_ints (G := fdivD) (C := fun i j => 0 < j ∧ j < 1073741824) (g := fun i j => .int (i / j)) (fun a b => by cases a <;> cases b <;> rfl) h
  exact ⟨i, j, e1, e2, hc, fun H => .int _⟩
theorem ov_fdivW : OpV X (binaryOp .FloorDiv) fdivWD := opv_ints op_fdivW fun a b d h => by
  obtain ⟨i, j, e1, e2, hc, rfl⟩ := two_ints (G := fdivWD) (C := fun i j => 0 < j ∧ j.natAbs.log2 < 9000) (g := fun i j => .int (i / j)) (fun a b => by cases a <;> cases b <;> rfl) h
  exact ⟨i, j, e1, e2, hc, fun H => .int _⟩
theorem ov_mod : OpV X (binaryOp .Mod) modD := opv_ints op_mod fun a b d h => by
  obtain ⟨i, j, e1, e2, hc, rfl⟩ := two_ints (G := modD) (C := fun i j => 0 < j) (g := fun i j => .int (i % j)) (fun a b => by cases a <;> cases b <;> rfl) h
  exact ⟨i, j, e1, e2, hc, fun H => .int _⟩
theorem ov_pow : OpV X (binaryOp .Pow) powD := opv_ints op_pow fun a b d h => by
  obtain ⟨i, j, e1, e2, hc, rfl⟩ := two_ints (G := powD) (C := fun i j => 0 ≤ j ∧ j ≤ 1000000 ∧ i.natAbs < 2 ^ 64) (g := fun i j => .int (i ^ j.toNat)) (fun a b => by cases a <;> cases b <;> rfl) h
  exact ⟨i, j, e1, e2, hc, fun H => .int _⟩
theorem ov_cmpI {f : Value → Value → Sem Value} {p : Int → Int → Bool} (h : OpR X f (rI0 fun i j => .bl (p i j))) : OpV X f (cmpI p) := opv_ints0 h fun a b d h => by
  cases a <;> cases b <;> first | cases h | skip
  exact ⟨_, _, rfl, rfl, fun H => .bl _⟩
theorem ov_lt : OpV X (compareOp .Lt) ltD := ov_cmpI op_lt
theorem ov_le : OpV X (compareOp .LtE) leD := ov_cmpI op_le
theorem ov_gt : OpV X (compareOp .Gt) gtD := ov_cmpI op_gt
theorem ov_ge : OpV X (compareOp .GtE) geD := ov_cmpI op_ge
theorem Dq.tupE {K : PySem.W.Frag} {H : Hp} {v : V} {ds : List D} (h : Dq K H v (.tuple ds)) : ∃ a xs, v = .ref a ∧ Rd H a (.tup xs) ∧ DqAll K H xs ds := by
  cases h with
  | tup h1 h2 => exact ⟨_, _, rfl, h1, h2⟩
theorem Dq.lstE {K : PySem.W.Frag} {H : Hp} {v : V} {ds : List D} (h : Dq K H v (.list ds)) : ∃ a xs, v = .ref a ∧ Rd H a (.lst xs) ∧ DqAll K H xs ds := by
  cases h with
  | lst h1 h2 => exact ⟨_, _, rfl, h1, h2⟩
/-- + of ints, tuples, texts -/
theorem ov_add : OpS X (binaryOp .Add) addD := by
  refine ⟨_, op_add.or (op_catA.or op_add_str), fun Zs x y H a b d Q hz ha hb hg k => ?_⟩
  cases a <;> cases b <;> first | cases hg | skip
  · rename_i i j
    cases ha
    cases hb
    exact .inl ⟨i, j, rfl, rfl, k _ _ (Same.refl _) (.int _)⟩
  · rename_i i j
    cases ha
    cases hb
    have hg : (if i.length + j.length ≤ lineN then some (PyData.str (i ++ j)) else none) = some d := hg
    by_cases hc : i.length + j.length ≤ lineN
    · rw [if_pos hc] at hg
      cases hg
      exact .inr (.inr ⟨i, j, rfl, rfl, Nat.le_trans hc lineN_le, k _ _ (Same.refl _) (.str _)⟩)
    · rw [if_neg hc] at hg
      cases hg
  · rename_i xs ys
    have hg : (if xs.length + ys.length ≤ lineN then some (PyData.tuple (xs ++ ys)) else none) = some d := hg
    by_cases hc : xs.length + ys.length ≤ lineN
    · rw [if_pos hc] at hg
      cases hg
      obtain ⟨p, us, rfl, p1, p3⟩ := Dq.tupE ha
      obtain ⟨q, ws, rfl, q1, q3⟩ := Dq.tupE hb
      refine .inr (.inl ⟨p, q, us, ws, rfl, rfl, .inl (same_rd (hide_same _ _) p1), .inl (same_rd (hide_same _ _) q1), by rw [DqAll.length p3, DqAll.length q3]; exact Nat.le_trans hc lineN_le, fun e => ?_, fun _ e => ?_, fun _ _ r hr => ?_⟩)
      · subst e
        cases p3
        exact k _ _ (Same.refl _) (.tup q1 q3)
      · subst e
        cases q3
        rw [List.append_nil] at k
        exact k _ _ (Same.refl _) (.tup p1 p3)
      · exact k _ _ (same_new hr _) (new_tup hz hr (DqAll.append p3 q3))
    · rw [if_neg hc] at hg
      cases hg
theorem ov_eq (hu : X.A.units + 64 < cLine) : OpV X (compareOp .Eq) eqD :=
  ⟨_, op_eqD hu, fun Zs x y H a b d Q hz ha hb hg k => by
    unfold eqD at hg
    by_cases hc : (SeqAt.shaped a && SeqAt.shaped b) = true
    · rw [if_pos hc] at hg
      cases hg
      obtain ⟨h1, h2⟩ := Bool.and_eq_true_iff.mp hc
      exact ⟨a, b, ha.dp (noDic_of h1), hb.dp (noDic_of h2), h1, h2, k _ _ (Same.refl _) (.bl _)⟩
    · rw [if_neg hc] at hg
      cases hg⟩
theorem ov_ne (hu : X.A.units + 64 < cLine) : OpV X (compareOp .NotEq) neD :=
  ⟨_, op_neD hu, fun Zs x y H a b d Q hz ha hb hg k => by
    unfold neD at hg
    by_cases hc : (SeqAt.shaped a && SeqAt.shaped b) = true
    · rw [if_pos hc] at hg
      cases hg
      obtain ⟨h1, h2⟩ := Bool.and_eq_true_iff.mp hc
      exact ⟨a, b, ha.dp (noDic_of h1), hb.dp (noDic_of h2), h1, h2, k _ _ (Same.refl _) (.bl _)⟩
    · rw [if_neg hc] at hg
      cases hg⟩
/-- in, over lists and tuples of data -/
def rInAny (K : PySem.W.Frag) (neg : Bool) : R2 := fun x y H Q => ∃ d e xs, Dp K H x d ∧ Dp K H y e ∧ itemsD e = some xs ∧ SeqAt.shaped d = true ∧ SeqAt.shaped e = true ∧
  Q (.bl (if neg = true then !xs.any fun z => PyData.eqv z d else xs.any fun z => PyData.eqv z d)) H
theorem ov_in0 (hu : X.A.units + 65 < cLine) : OpR X (compareOp .In) (rInAny X.K false) := by
  intro pins s σ H x y v u Q I rx ry h
  obtain ⟨d, e, xs, hd, he, hx, sd, se, q⟩ := h
  obtain ⟨as, r1⟩ := Dp.reads I d x v hd rx
  obtain ⟨bs, r2⟩ := Dp.reads I e y u he ry
  cases e <;> first | cases hx | skip
  · exact SeqAt.in_list_reads r2 r1 (SeqAt.canLay_of_shaped se) (SeqAt.canLay_of_shaped sd) (PyProof.Rows.room_in_shaped sd hu) ⟨.bl _, H, I, rfl, q⟩
  · exact SeqAt.in_tuple_reads r2 r1 (SeqAt.canLay_of_shaped se) (SeqAt.canLay_of_shaped sd) (PyProof.Rows.room_in_shaped sd hu) ⟨.bl _, H, I, rfl, q⟩
theorem ov_notIn0 (hu : X.A.units + 65 < cLine) : OpR X (compareOp .NotIn) (rInAny X.K true) := by
  intro pins s σ H x y v u Q I rx ry h
  obtain ⟨d, e, xs, hd, he, hx, sd, se, q⟩ := h
  obtain ⟨as, r1⟩ := Dp.reads I d x v hd rx
  obtain ⟨bs, r2⟩ := Dp.reads I e y u he ry
  cases e <;> first | cases hx | skip
  · exact SeqAt.notIn_list_reads r2 r1 (SeqAt.canLay_of_shaped se) (SeqAt.canLay_of_shaped sd) (PyProof.Rows.room_in_shaped sd hu) ⟨.bl _, H, I, rfl, q⟩
  · exact SeqAt.notIn_tuple_reads r2 r1 (SeqAt.canLay_of_shaped se) (SeqAt.canLay_of_shaped sd) (PyProof.Rows.room_in_shaped sd hu) ⟨.bl _, H, I, rfl, q⟩
theorem ov_in (hu : X.A.units + 65 < cLine) : OpV X (compareOp .In) inD :=
  ⟨_, ov_in0 hu, fun Zs x y H a b d Q hz ha hb hg k => by
    obtain ⟨xs, hx, hg⟩ := Option.bind_eq_some_iff.mp hg
    by_cases hc : (SeqAt.shaped a && SeqAt.shaped b) = true
    · rw [if_pos hc] at hg
      cases hg
      obtain ⟨h1, h2⟩ := Bool.and_eq_true_iff.mp hc
      exact ⟨a, b, xs, ha.dp (noDic_of h1), hb.dp (noDic_of h2), hx, h1, h2, k _ _ (Same.refl _) (.bl _)⟩
    · rw [if_neg hc] at hg
      cases hg⟩
theorem ov_notIn (hu : X.A.units + 65 < cLine) : OpV X (compareOp .NotIn) notInD :=
  ⟨_, ov_notIn0 hu, fun Zs x y H a b d Q hz ha hb hg k => by
    obtain ⟨xs, hx, hg⟩ := Option.bind_eq_some_iff.mp hg
    by_cases hc : (SeqAt.shaped a && SeqAt.shaped b) = true
    · rw [if_pos hc] at hg
      cases hg
      obtain ⟨h1, h2⟩ := Bool.and_eq_true_iff.mp hc
      exact ⟨a, b, xs, ha.dp (noDic_of h1), hb.dp (noDic_of h2), hx, h1, h2, k _ _ (Same.refl _) (.bl _)⟩
    · rw [if_neg hc] at hg
      cases hg⟩
end
end VL
/-! the value layer: arguments, built-ins, displays, tests, subscripts -/
namespace VL
open PySem
open PySem.Spec
open L2

section
variable {X : Cx} {c : Ct} {U : List Nat}
/-! ### arguments -/
theorem fa_nil : FA X c U [] [] aN := ⟨tNil, pa_nil, fun Z H0 O en σ H m Q hE hG => hG [] H (SameW.refl _ _) hE.dr trivial⟩
theorem fa_cons {k : Kd} {ks : List Kd} {e : Expr} {es : List Expr} {F : SE → M D} {G : SE → M (List D)} (h : FR X c U k e F) (r : FA X c U es ks G) (hs : starEach (e :: es) X.env = (false, eval e X.env) :: starEach es X.env := by rfl) : FA X c U (e :: es) (k :: ks) (aC F G) := by
  obtain ⟨ta, pa, ra⟩ := h
  obtain ⟨tb, pb, rb⟩ := r
  refine ⟨_, pa_cons pa pb hs, fun Z H0 O en σ H m Q hE hG => ?_⟩
  refine ra Z H0 O en σ H m _ hE (hG.bd.mono (fun a m1 k1 x H1 s1 d1 q1 => ?_) fun _ _ k => k)
  refine rb Z H0 O en σ H1 m1 _ (hE.step s1 d1) (k1.bd.mono (fun b m2 k2 y H2 s2 d2 q2 => ?_) fun _ _ k => k.step s1)
  exact k2 (x :: y) H2 (s1.trans s2) d2 ⟨q1.mono (s2.hide hE.wzo), q2⟩
theorem fab_nil : FAb X c U [] aN := ⟨tNil, pa_nil, fun Z H0 O en σ H m Q hE hG => hG [] H (SameW.refl _ _) hE.dr fun _ _ => trivial⟩
theorem fab_cons {e : Expr} {es : List Expr} {F : SE → M D} {G : SE → M (List D)} (h : FB X c U e F) (r : FAb X c U es G) (hs : starEach (e :: es) X.env = (false, eval e X.env) :: starEach es X.env := by rfl) : FAb X c U (e :: es) (aC F G) := by
  obtain ⟨ta, pa, ra⟩ := h
  obtain ⟨tb, pb, rb⟩ := r
  refine ⟨_, pa_cons pa pb hs, fun Z H0 O en σ H m Q hE hG => ?_⟩
  refine ra Z H0 O en σ H m _ hE (hG.bd.mono (fun a m1 k1 x H1 s1 d1 q1 => ?_) fun _ _ k => k)
  refine rb Z H0 O en σ H1 m1 _ (hE.step s1 d1) (k1.bd.mono (fun b m2 k2 y H2 s2 d2 q2 => ?_) fun _ _ k => k.step s1)
  exact k2 (x :: y) H2 (s1.trans s2) d2 fun H'' s3 => ⟨q1.2 H'' (s2.trans s3), q2 H'' s3⟩
theorem AllK.all {K : PySem.W.Frag} {H : Hp} : ∀ {n : Nat} {vs : List V} {ds : List D}, AllK K H (List.replicate n Kd.dat) vs ds → DqAll K H vs ds
  | 0, [], [], _ => .nil
  | n + 1, _ :: _, _ :: _, h => .cons h.1 (AllK.all (n := n) h.2)
  | 0, _ :: _, _, h => by cases h
  | 0, [], _ :: _, h => by cases h
  | n + 1, [], _, h => by cases h
  | n + 1, _ :: _, [], h => by cases h

/-! ### displays -/
def mkT (ds : List D) : Option D := if ds.length ≤ lineN then some (.tuple ds) else none
def mkL (ds : List D) : Option D := if ds.length ≤ lineN then some (.list ds) else none
theorem fe_tup {n : Nat} {ks : List Kd} {es : List Expr} {F : SE → M (List D)} {x1 pos} (h : FA X c U es ks F) (hk : ks = List.replicate n Kd.dat := by rfl) : FE X c U (.Tuple es x1 pos) (eL mkT F) := by
  obtain ⟨t, p, r⟩ := h
  subst hk
  refine ⟨_, pe_tup p, fun Z H0 O en σ H m Q hE hG => ?_⟩
  refine r Z H0 O en σ H m _ hE (hG.bd.mono (fun ds m1 k1 xs H1 s1 d1 q1 => ?_) fun _ _ k => k)
  obtain ⟨d, hd, k2⟩ := k1.lft
  have q := AllK.all q1
  unfold mkT at hd
  by_cases hc : ds.length ≤ lineN
  · rw [if_pos hc] at hd
    cases hd
    refine ⟨by rw [DqAll.length q]; exact Nat.le_trans hc lineN_le, fun p hp => ?_⟩
    exact k2 _ _ (s1.trans (.of (same_new hp _))) (d1.same (same_new hp _)) (new_tup (hE.step s1 d1).zt hp q)
  · rw [if_neg hc] at hd
    cases hd
theorem fo_lst {n : Nat} {ks : List Kd} {es : List Expr} {F : SE → M (List D)} {pos} (h : FA X c U es ks F) (hk : ks = List.replicate n Kd.dat := by rfl) : FO X c U .dat (.List es pos) (eL mkL F) := by
  obtain ⟨t, p, r⟩ := h
  subst hk
  refine ⟨_, pe_lst p, fun Z H0 O en σ H m Q hE hG => ?_⟩
  refine r Z H0 O en σ H m _ hE (hG.bd.mono (fun ds m1 k1 xs H1 s1 d1 q1 => ?_) fun _ _ k => k)
  obtain ⟨d, hd, k2⟩ := k1.lft
  have q := AllK.all q1
  unfold mkL at hd
  by_cases hc : ds.length ≤ lineN
  · rw [if_pos hc] at hd
    cases hd
    refine ⟨by rw [DqAll.length q]; exact Nat.le_trans hc lineN_le, fun p hp => ?_⟩
    refine k2 p _ _ (s1.trans (.of (same_new hp _))) (d1.same (same_new hp _)) (hE.same_none s1 d1 hp) upd_same (.lst ds xs (DqAll.mono (hide_push hp) q)) rfl
  · rw [if_neg hc] at hd
    cases hd
/-- {} -/
theorem fo_dicK {pos} : FO X c U .dic (.Dict [] [] pos) (eC (.dict [])) :=
  ⟨_, pe_dnewK, fun Z H0 O en σ H m Q hE hG p hp => hG p _ _ (.of (same_new hp _)) (hE.dr.same (same_new hp _)) hp upd_same (.dic [] _ (.k [] [] [] .nil rfl)) rfl⟩
theorem fo_dicT {pos} : FO X c U .dit (.Dict [] [] pos) (eC (.dict [])) :=
  ⟨_, pe_dnewT, fun Z H0 O en σ H m Q hE hG p hp => hG p _ _ (.of (same_new hp _)) (hE.dr.same (same_new hp _)) hp upd_same (.dic [] _ (.t [] [] [] .nil rfl)) rfl⟩

/-! ### built-ins -/
/-- what a call gives, by the data -/
def CallV (X : Cx) (f : Value) (g : List D → Option D) : Prop :=
  ∃ r : List V → Hp → VK → Prop, CallR X f r ∧ ∀ (Zs : List Addr) (vs : List V) (H : Hp) (ds : List D) (d : D) (Q : VK), (∀ z ∈ Zs, H z ≠ none) → All2 (fun v d => Br X.K Zs H d v) vs ds → g ds = some d →
    (∀ v H', Same H H' → Dq X.K (hide Zs H') v d → Q v H') → r vs H Q
/-- .. a new thing -/
def CallO (X : Cx) (k : Kd) (f : Value) (g : List D → Option D) : Prop :=
  ∃ r : List V → Hp → VK → Prop, CallR X f r ∧ ∀ (Zs : List Addr) (vs : List V) (H : Hp) (ds : List D) (d : D) (Q : VK), (∀ z ∈ Zs, H z ≠ none) → All2 (fun v d => Br X.K Zs H d v) vs ds → g ds = some d →
    (∀ a o H', Same H H' → H a = none → H' a = some o → OwnR X.K (hide (a :: Zs) H') d o → kO o = k → Q (.ref a) H') → r vs H Q
theorem fe_callB {x : Str} {id : String} {p pos : Pos} {e : Expr} {es : List Expr} {F : SE → M (List D)} {g : List D → Option D} (hc : CallV X (.builtin id) g) (hm : X.mg x = none) (ha : FAb X c U (e :: es) F) (hg : Gl X x := by rfl) (hv : bootBuiltins x = some (.builtin id) := by decide +kernel) (hn : x ≠ "__name__" := by decide) (hdb : (x == ("__debug__" : Str)) = false := by decide)
    (he : starEach (e :: es) X.env = (false, eval e X.env) :: starEach es X.env := by rfl) (hpl : (backTo pos (starEach es X.env)).any (·.1) = false := by rfl) : FE X c U (.Call (.Name x p) (e :: es) [] pos) (eL g F) := by
  obtain ⟨t, pa, r⟩ := ha
  obtain ⟨rc, pc, rr⟩ := hc
  refine ⟨_, pe_callB pc hg hm hv pa hn hdb he hpl, fun Z H0 O en σ H m Q hE hG => ?_⟩
  refine r Z H0 O en σ H m _ hE (hG.bd.mono (fun ds m1 k1 xs H1 s1 d1 q1 => ?_) fun _ _ k => k)
  obtain ⟨d, hd, k2⟩ := k1.lft
  exact rr _ xs H1 ds d Q (hE.step s1 d1).zt (q1 H1 (SameW.refl _ _)) hd fun v H2 s2 q2 => k2 v H2 (s1.trans (.of s2)) (d1.same s2) q2
theorem fe_callTy {x : Str} {T : String} {p pos : Pos} {e : Expr} {es : List Expr} {F : SE → M (List D)} {g : List D → Option D} (hc : CallV X (.type T) g) (hm : X.mg x = none) (ha : FAb X c U (e :: es) F) (hg : Gl X x := by rfl) (hv : bootBuiltins x = some (.type T) := by decide +kernel) (hn : x ≠ "__name__" := by decide) (hdb : (x == ("__debug__" : Str)) = false := by decide)
    (he : starEach (e :: es) X.env = (false, eval e X.env) :: starEach es X.env := by rfl) (hpl : (backTo pos (starEach es X.env)).any (·.1) = false := by rfl) : FE X c U (.Call (.Name x p) (e :: es) [] pos) (eL g F) := by
  obtain ⟨t, pa, r⟩ := ha
  obtain ⟨rc, pc, rr⟩ := hc
  refine ⟨_, pe_callTy pc hg hm hv pa hn hdb he hpl, fun Z H0 O en σ H m Q hE hG => ?_⟩
  refine r Z H0 O en σ H m _ hE (hG.bd.mono (fun ds m1 k1 xs H1 s1 d1 q1 => ?_) fun _ _ k => k)
  obtain ⟨d, hd, k2⟩ := k1.lft
  exact rr _ xs H1 ds d Q (hE.step s1 d1).zt (q1 H1 (SameW.refl _ _)) hd fun v H2 s2 q2 => k2 v H2 (s1.trans (.of s2)) (d1.same s2) q2
theorem fo_callB {k : Kd} {x : Str} {id : String} {p pos : Pos} {e : Expr} {es : List Expr} {F : SE → M (List D)} {g : List D → Option D} (hc : CallO X k (.builtin id) g) (hm : X.mg x = none) (ha : FAb X c U (e :: es) F) (hg : Gl X x := by rfl) (hv : bootBuiltins x = some (.builtin id) := by decide +kernel) (hn : x ≠ "__name__" := by decide) (hdb : (x == ("__debug__" : Str)) = false := by decide)
    (he : starEach (e :: es) X.env = (false, eval e X.env) :: starEach es X.env := by rfl) (hpl : (backTo pos (starEach es X.env)).any (·.1) = false := by rfl) : FO X c U k (.Call (.Name x p) (e :: es) [] pos) (eL g F) := by
  obtain ⟨t, pa, r⟩ := ha
  obtain ⟨rc, pc, rr⟩ := hc
  refine ⟨_, pe_callB pc hg hm hv pa hn hdb he hpl, fun Z H0 O en σ H m Q hE hG => ?_⟩
  refine r Z H0 O en σ H m _ hE (hG.bd.mono (fun ds m1 k1 xs H1 s1 d1 q1 => ?_) fun _ _ k => k)
  obtain ⟨d, hd, k2⟩ := k1.lft
  exact rr _ xs H1 ds d Q (hE.step s1 d1).zt (q1 H1 (SameW.refl _ _)) hd fun a o H2 s2 n ha q2 hk => k2 a o H2 (s1.trans (.of s2)) (d1.same s2) (hE.same_none s1 d1 n) ha q2 hk
theorem fo_callTy {k : Kd} {x : Str} {T : String} {p pos : Pos} {e : Expr} {es : List Expr} {F : SE → M (List D)} {g : List D → Option D} (hc : CallO X k (.type T) g) (hm : X.mg x = none) (ha : FAb X c U (e :: es) F) (hg : Gl X x := by rfl) (hv : bootBuiltins x = some (.type T) := by decide +kernel) (hn : x ≠ "__name__" := by decide) (hdb : (x == ("__debug__" : Str)) = false := by decide)
    (he : starEach (e :: es) X.env = (false, eval e X.env) :: starEach es X.env := by rfl) (hpl : (backTo pos (starEach es X.env)).any (·.1) = false := by rfl) : FO X c U k (.Call (.Name x p) (e :: es) [] pos) (eL g F) := by
  obtain ⟨t, pa, r⟩ := ha
  obtain ⟨rc, pc, rr⟩ := hc
  refine ⟨_, pe_callTy pc hg hm hv pa hn hdb he hpl, fun Z H0 O en σ H m Q hE hG => ?_⟩
  refine r Z H0 O en σ H m _ hE (hG.bd.mono (fun ds m1 k1 xs H1 s1 d1 q1 => ?_) fun _ _ k => k)
  obtain ⟨d, hd, k2⟩ := k1.lft
  exact rr _ xs H1 ds d Q (hE.step s1 d1).zt (q1 H1 (SameW.refl _ _)) hd fun a o H2 s2 n ha q2 hk => k2 a o H2 (s1.trans (.of s2)) (d1.same s2) (hE.same_none s1 d1 n) ha q2 hk

theorem all2_1 {R : V → D → Prop} {vs : List V} {d : D} (h : All2 R vs [d]) : ∃ v, vs = [v] ∧ R v d := by
  cases vs with
  | nil => exact h.elim
  | cons v r =>
    cases r with
    | nil => exact ⟨v, rfl, h.1⟩
    | cons w r => exact h.2.elim
theorem all2_2 {R : V → D → Prop} {vs : List V} {d e : D} (h : All2 R vs [d, e]) : ∃ v w, vs = [v, w] ∧ R v d ∧ R w e := by
  cases vs with
  | nil => exact h.elim
  | cons v r =>
    obtain ⟨w, rfl, q⟩ := all2_1 h.2
    exact ⟨v, w, rfl, h.1, q⟩
/-- of one thing -/
def one1 (g : D → Option D) : List D → Option D
  | [d] => g d
  | _ => none
def two2 (g : D → D → Option D) : List D → Option D
  | [d, e] => g d e
  | _ => none
theorem one1_some {g : D → Option D} {ds : List D} {d : D} (h : one1 g ds = some d) : ∃ a, ds = [a] ∧ g a = some d := by
  cases ds with
  | nil => cases h
  | cons a r =>
    cases r with
    | nil => exact ⟨a, rfl, h⟩
    | cons _ _ => cases h
theorem two2_some {g : D → D → Option D} {ds : List D} {d : D} (h : two2 g ds = some d) : ∃ a b, ds = [a, b] ∧ g a b = some d := by
  cases ds with
  | nil => cases h
  | cons a r =>
    cases r with
    | nil => cases h
    | cons b r =>
      cases r with
      | nil => exact ⟨a, b, rfl, h⟩
      | cons _ _ => cases h
/-- a call of one value -/
theorem cv1 {f : Value} {r : List V → Hp → VK → Prop} {g : D → Option D} (h : CallR X f r) (k : ∀ (Zs : List Addr) (v : V) (H : Hp) (a d : D) (Q : VK), (∀ z ∈ Zs, H z ≠ none) → Br X.K Zs H a v → g a = some d → (∀ v H', Same H H' → Dq X.K (hide Zs H') v d → Q v H') → r [v] H Q) : CallV X f (one1 g) :=
  ⟨r, h, fun Zs vs H ds d Q hz ha hg q => by
    obtain ⟨a, rfl, hg⟩ := one1_some hg
    obtain ⟨v, rfl, hv⟩ := all2_1 ha
    exact k Zs v H a d Q hz hv hg q⟩
theorem co1 {k : Kd} {f : Value} {r : List V → Hp → VK → Prop} {g : D → Option D} (h : CallR X f r) (kk : ∀ (Zs : List Addr) (v : V) (H : Hp) (a d : D) (Q : VK), (∀ z ∈ Zs, H z ≠ none) → Br X.K Zs H a v → g a = some d →
    (∀ a o H', Same H H' → H a = none → H' a = some o → OwnR X.K (hide (a :: Zs) H') d o → kO o = k → Q (.ref a) H') → r [v] H Q) : CallO X k f (one1 g) :=
  ⟨r, h, fun Zs vs H ds d Q hz ha hg q => by
    obtain ⟨a, rfl, hg⟩ := one1_some hg
    obtain ⟨v, rfl, hv⟩ := all2_1 ha
    exact kk Zs v H a d Q hz hv hg q⟩
def lenD : D → Option D
  | .list xs => some (.int xs.length)
  | .tuple xs => some (.int xs.length)
  | .str x => if x.length ≤ lineN then some (.int x.length) else none
  | _ => none
theorem cv_len : CallV X (.builtin "len") (one1 lenD) :=
  cv1 (call_len_seq.or call_len_str) fun Zs v H a d Q hz hv hg k => by
    cases a <;> first | cases hg | skip
    · rename_i x
      have hg : (if x.length ≤ lineN then some (PyData.int x.length) else none) = some d := hg
      by_cases hc : x.length ≤ lineN
      · rw [if_pos hc] at hg
        cases hg
        obtain rfl := hv.str
        exact .inr ⟨x, rfl, Nat.le_trans hc lineN_le, k _ _ (Same.refl _) (.int _)⟩
      · rw [if_neg hc] at hg
        cases hg
    · obtain ⟨p, xs, rfl, h1, h2⟩ := hv.lst
      exact .inl ⟨p, xs, rfl, .inl h1, by rw [DqAll.length h2]; exact k _ _ (Same.refl _) (.int _)⟩
    · obtain ⟨p, xs, rfl, h1, h2, _⟩ := hv.tup
      exact .inl ⟨p, xs, rfl, .inr h1, by rw [DqAll.length h2]; exact k _ _ (Same.refl _) (.int _)⟩
/-- ints -/
def intsD : List D → Option (List Int)
  | [] => some []
  | .int i :: r => (intsD r).map (i :: ·)
  | _ => none
theorem intsD_some : ∀ {ds : List D} {ns : List Int}, intsD ds = some ns → ds = ns.map PyData.int
  | [], _, h => by cases h; rfl
  | .int i :: r, ns, h => by
    have h : (intsD r).map (i :: ·) = some ns := h
    obtain ⟨q, h1, rfl⟩ := Option.map_eq_some_iff.mp h
    rw [intsD_some h1]
    rfl
  | .none :: _, _, h => by cases h
  | .bool _ :: _, _, h => by cases h
  | .str _ :: _, _, h => by cases h
  | .list _ :: _, _, h => by cases h
  | .tuple _ :: _, _, h => by cases h
  | .dict _ :: _, _, h => by cases h
theorem intsD_ints : ∀ (ns : List Int), intsD (ns.map PyData.int) = some ns
  | [] => rfl
  | i :: r => by
    show (intsD (r.map PyData.int)).map (i :: ·) = some (i :: r)
    rw [intsD_ints r]
    rfl
def boolsD : List D → Option (List Bool)
  | [] => some []
  | .bool i :: r => (boolsD r).map (i :: ·)
  | _ => none
theorem boolsD_some : ∀ {ds : List D} {ns : List Bool}, boolsD ds = some ns → ds = ns.map PyData.bool
  | [], _, h => by cases h; rfl
  | .bool i :: r, ns, h => by
    have h : (boolsD r).map (i :: ·) = some ns := h
    obtain ⟨q, h1, rfl⟩ := Option.map_eq_some_iff.mp h
    rw [boolsD_some h1]
    rfl
  | .none :: _, _, h => by cases h
  | .int _ :: _, _, h => by cases h
  | .str _ :: _, _, h => by cases h
  | .list _ :: _, _, h => by cases h
  | .tuple _ :: _, _, h => by cases h
  | .dict _ :: _, _, h => by cases h
theorem boolsD_bools : ∀ (ns : List Bool), boolsD (ns.map PyData.bool) = some ns
  | [] => rfl
  | i :: r => by
    show (boolsD (r.map PyData.bool)).map (i :: ·) = some (i :: r)
    rw [boolsD_bools r]
    rfl
def maxI : List Int → Int
  | [] => 0
  | n :: ns => ns.foldl max n
def minI : List Int → Int
  | [] => 0
  | n :: ns => ns.foldl min n
theorem maxI_of {l : List Int} {m : Int} (hm : m ∈ l) (h : ∀ a, a ∈ l → a ≤ m) : m = maxI l := by
  have fold : ∀ (r : List Int) (a : Int), (r.foldl max a = a ∨ r.foldl max a ∈ r) ∧ a ≤ r.foldl max a ∧ ∀ x ∈ r, x ≤ r.foldl max a := by
    intro r
    induction r with
    | nil => intro a; simp
    | cons x r ih =>
      intro a
      obtain ⟨h1, h2, h3⟩ := ih (max a x)
      rw [List.foldl_cons]
      refine ⟨?_, by omega, ?_⟩
      · rcases h1 with h1 | h1
        · rw [h1]
          by_cases q : a ≤ x
          · right; rw [Int.max_eq_right q]; exact List.mem_cons_self
          · left; exact Int.max_eq_left (by omega)
        · right; exact List.mem_cons_of_mem _ h1
      · intro y hy
        rcases List.mem_cons.mp hy with rfl | hy
        · omega
        · exact h3 y hy
  cases l with
  | nil => cases hm
  | cons n ns =>
    obtain ⟨h1, h2, h3⟩ := fold ns n
    have a1 : maxI (n :: ns) ≤ m := by
      show ns.foldl max n ≤ m
      rcases h1 with h1 | h1
      · rw [h1]; exact h n List.mem_cons_self
      · exact h _ (List.mem_cons_of_mem _ h1)
    have a2 : m ≤ maxI (n :: ns) := by
      show m ≤ ns.foldl max n
      rcases List.mem_cons.mp hm with rfl | hm
      · exact h2
      · exact h3 m hm
    omega
/-- the data are of one kind -/
def alikeB (xs : List D) : Bool := (xs.all fun x => xs.all fun y => PySem.W.alike x y) && xs.all fun x => match x with
  | .none => false
  | _ => true
theorem alikeB_all {xs : List D} (h : alikeB xs = true) : PySem.W.AlikeAll xs := by
  obtain ⟨h1, h2⟩ := Bool.and_eq_true_iff.mp h
  refine ⟨fun x hx y hy => List.all_eq_true.mp (List.all_eq_true.mp h1 x hx) y hy, fun x hx q => ?_⟩
  subst q
  exact absurd (List.all_eq_true.mp h2 _ hx) (by simp)
/-- the greatest, the least: (the list or tuple is not empty, its items are alike) -/
def maxV (a : D) : Option D := (itemsD a).bind fun xs => match xs with
  | [] => none
  | x :: r => if (alikeB (x :: r) && SeqAt.shaped a) = true then some (PySem.W.maxD x r) else none
def minV (a : D) : Option D := (itemsD a).bind fun xs => match xs with
  | [] => none
  | x :: r => if (alikeB (x :: r) && SeqAt.shaped a) = true then some (PySem.W.minD x r) else none
theorem dataLt_int2 (n x : Int) : PySem.W.dataLt (.int n) (.int x) = decide (n < x) := by
  have h := PySem.W.not_lt_int n x
  have e := congrFun (congrFun (PySem.W.dataLe_int (β := Int) id) x) n
  have e' : (!PySem.W.dataLt (.int n) (.int x)) = decide (x ≤ n) := e
  by_cases q : n < x
  · rw [decide_eq_true q]
    rw [decide_eq_false (by omega)] at e'
    simpa using e'
  · rw [decide_eq_false q]
    rw [decide_eq_true (by omega)] at e'
    simpa using e'
theorem alike_ints (ns : List Int) : PySem.W.AlikeAll (ns.map PyData.int) := by
  refine ⟨fun x hx y hy => ?_, fun x hx => ?_⟩
  · obtain ⟨i, _, rfl⟩ := List.mem_map.mp hx
    obtain ⟨j, _, rfl⟩ := List.mem_map.mp hy
    rfl
  · obtain ⟨i, _, rfl⟩ := List.mem_map.mp hx
    exact fun q => by cases q
theorem maxD_ints : ∀ (ns : List Int) (n : Int), PySem.W.maxD (.int n) (ns.map PyData.int) = .int (ns.foldl max n)
  | [], n => rfl
  | x :: r, n => by
    show PySem.W.maxD (if PySem.W.dataLt (.int n) (.int x) = true then .int x else .int n) (r.map PyData.int) = _
    have e : (if PySem.W.dataLt (.int n) (.int x) = true then PyData.int x else .int n) = .int (max n x) := by
      rw [dataLt_int2]
      by_cases h : n < x
      · rw [if_pos (decide_eq_true h), Int.max_eq_right (by omega)]
      · rw [if_neg (by simpa using h), Int.max_eq_left (by omega)]
    rw [e, maxD_ints r]
    rfl
theorem minD_ints : ∀ (ns : List Int) (n : Int), PySem.W.minD (.int n) (ns.map PyData.int) = .int (ns.foldl min n)
  | [], n => rfl
  | x :: r, n => by
    show PySem.W.minD (if PySem.W.dataLt (.int x) (.int n) = true then .int x else .int n) (r.map PyData.int) = _
    have e : (if PySem.W.dataLt (.int x) (.int n) = true then PyData.int x else .int n) = .int (min n x) := by
      rw [dataLt_int2]
      by_cases h : x < n
      · rw [if_pos (decide_eq_true h), Int.min_eq_right (by omega)]
      · rw [if_neg (by simpa using h), Int.min_eq_left (by omega)]
    rw [e, minD_ints r]
    rfl
end
end VL
/-! the value layer: the built-ins one by one, tests, subscripts -/
namespace VL
open PySem
open PySem.Spec
open L2

section
variable {X : Cx} {c : Ct} {U : List Nat}
/-- room for the built-ins -/
def HU (X : Cx) : Prop := X.A.units + 100 < cLine
theorem HU.of {X : Cx} {k : Nat} (h : Room k X.A) : HU X := by
  have := h.un
  unfold HU
  omega
theorem items_at {K : PySem.W.Frag} {H : Hp} {xs : List V} {ds : List D} {us : List Value} {i : Nat} {u : Value} (h : DqAll K H xs ds) (r : Vals xs us) (e : us[i]? = some u) : ∃ v d, xs[i]? = some v ∧ RelV v u ∧ ds[i]? = some d ∧ Dq K H v d := by
  have hi : i < xs.length := by
    have := (List.getElem?_eq_some_iff.mp e).1
    have := r.length
    omega
  obtain ⟨u', e1, e2⟩ := r.get (List.getElem?_eq_getElem hi)
  rw [e] at e1
  cases e1
  obtain ⟨d, e3, e4⟩ := DqAll.getV h (List.getElem?_eq_getElem hi)
  exact ⟨_, d, List.getElem?_eq_getElem hi, e2, e3, e4⟩
theorem depthAll_le {xs : List D} {a : D} (ha : itemsD a = some xs) (h : SeqAt.shaped a = true) : PyData.depthAll xs ≤ 64 := by
  have q := SeqAt.depth_of_shaped h
  cases a <;> first | cases ha | skip
  · have q : PyData.depthAll xs + 1 ≤ 64 := q
    omega
  · have q : PyData.depthAll xs + 1 ≤ 64 := q
    omega
theorem canAll {xs : List D} {a : D} (ha : itemsD a = some xs) (h : SeqAt.shaped a = true) : PyData.canLayAll0 xs = true := by
  have q := SeqAt.canLay_of_shaped h
  cases a <;> first | cases ha | skip
  · exact q
  · exact q
/-- what one item of alike data gives: max, min -/
def rExt (K : PySem.W.Frag) (f : D → List D → D) : List V → Hp → VK → Prop := fun vs H Q => ∃ (e : D) (y : D) (ys : List D) (a : Addr) (xs : List V), vs = [.ref a] ∧ itemsD e = some (y :: ys) ∧ (alikeB (y :: ys) && SeqAt.shaped e) = true ∧
  Dp K H (.ref a) e ∧ (SqL K H a xs ∨ SqT K H a xs) ∧ DpAll K H xs (y :: ys) ∧ ∀ (i : Nat) (v : V), xs[i]? = some v → (y :: ys)[i]? = some (f y ys) → Q v H
theorem ext_end {pins : List (Addr × Obj)} {σ : L2.St} {H : Hp} {s : Shared} {h' : Heap} {tk : Nat} {xs : List V} {ds : List D} {us : List Value} {i : Nat} {u : Value} {d : D} {bs : List Addr} {Q : VK} (I : Inv X pins σ H s) (k : ∀ b o, s.heap.get? b = some o → h'.get? b = some o) (hc : PyData.canLayAll0 ds = true)
    (r : Vals xs us) (h : DpAll X.K H xs ds) (e : us[i]? = some u) (rd : Reads h' u d bs) (q : ∀ (i : Nat) (v : V), xs[i]? = some v → ds[i]? = some d → Q v H) : EP X pins σ Q u { s with heap := h', toks := tk } := by
  have I' : Inv X pins σ H { s with heap := h', toks := tk } := I.kept k
  have hl := r.length
  have hi : i < xs.length := by
    have := (List.getElem?_eq_some_iff.mp e).1
    omega
  obtain ⟨u', e1, e2⟩ := r.get (List.getElem?_eq_getElem hi)
  rw [e] at e1
  cases e1
  have hl2 : xs.length = ds.length := by
    have : ∀ {ds : List D} {vs : List V}, DpAll X.K H vs ds → vs.length = ds.length := by
      intro ds
      induction ds with
      | nil => intro vs q; cases q; rfl
      | cons a b ih =>
        intro vs q
        cases q with
        | cons q1 q2 => simp [ih q2]
    exact this h
  have hd : i < ds.length := by omega
  have rdp : ∀ {ds : List D} {vs : List V} {i : Nat} {v : V} {d : D}, DpAll X.K H vs ds → vs[i]? = some v → ds[i]? = some d → Dp X.K H v d := by
    intro ds
    induction ds with
    | nil => intro vs i v d q e1 e2; simp at e2
    | cons a b ih =>
      intro vs i v d q e1 e2
      cases q with
      | cons q1 q2 =>
        cases i with
        | zero =>
          simp at e1 e2
          subst e1
          subst e2
          exact q1
        | succ i => exact ih q2 (by simpa using e1) (by simpa using e2)
  obtain ⟨as, r2⟩ := Dp.reads I' _ _ u (rdp h (List.getElem?_eq_getElem hi) (List.getElem?_eq_getElem hd)) e2
  have hcd : (ds[i]).canLay0 = true := by
    have : ∀ {ds : List D} (i : Nat) (hd : i < ds.length), PyData.canLayAll0 ds = true → (ds[i]).canLay0 = true := by
      intro ds
      induction ds with
      | nil => intro i hd; cases hd
      | cons a b ih =>
        intro i hd q
        have q : (a.canLay0 && PyData.canLayAll0 b) = true := q
        obtain ⟨q1, q2⟩ := Bool.and_eq_true_iff.mp q
        cases i with
        | zero => exact q1
        | succ i => exact ih i _ q2
    exact this i hd hc
  have e3 : ds[i] = d := PySem.SeqAt.Reads.unique _ _ _ _ _ hcd r2 rd
  exact ⟨xs[i], H, I', e2, q i _ (List.getElem?_eq_getElem hi) (by rw [List.getElem?_eq_getElem hd, e3])⟩
theorem cr_maxD2 (hc : X.calm = true) (hu : HU X) : CallR X (.builtin "max") (rExt X.K PySem.W.maxD) := by
  intro pins s σ H vs us Q I r h
  obtain ⟨e, y, ys, a, xs, rfl, he, hb, hd, hs, ha, q⟩ := h
  obtain ⟨b1, b2⟩ := Bool.and_eq_true_iff.mp hb
  have hdep := depthAll_le he b2
  have hu : X.A.units + 100 < cLine := hu
  rw [Vals.ref1 r]
  rcases hs with hs | hs
  · obtain ⟨its, rv, pl, _⟩ := I.list hs
    obtain ⟨as, rs⟩ := Dp.readsAll I _ _ its ha rv
    exact PySem.W.max_list_data (I.ok.hd hc) pl.isList rs (alikeB_all b1) (by omega) fun i v h' tk bs e1 e2 e3 => ext_end I e3 (canAll he b2) rv ha (by simpa using e1) e2 q
  · obtain ⟨its, rv, pl, _⟩ := I.tuple hs
    obtain ⟨as, rs⟩ := Dp.readsAll I _ _ its ha rv
    exact PySem.W.max_tuple_data (I.ok.hd hc) (show s.heap.IsTuple a its.toArray from pl) rs (alikeB_all b1) (by omega) fun i v h' tk bs e1 e2 e3 => ext_end I e3 (canAll he b2) rv ha (by simpa using e1) e2 q
theorem cr_minD2 (hc : X.calm = true) (hu : HU X) : CallR X (.builtin "min") (rExt X.K PySem.W.minD) := by
  intro pins s σ H vs us Q I r h
  obtain ⟨e, y, ys, a, xs, rfl, he, hb, hd, hs, ha, q⟩ := h
  obtain ⟨b1, b2⟩ := Bool.and_eq_true_iff.mp hb
  have hdep := depthAll_le he b2
  have hu : X.A.units + 100 < cLine := hu
  rw [Vals.ref1 r]
  rcases hs with hs | hs
  · obtain ⟨its, rv, pl, _⟩ := I.list hs
    obtain ⟨as, rs⟩ := Dp.readsAll I _ _ its ha rv
    exact PySem.W.min_list_data (I.ok.hd hc) pl.isList rs (alikeB_all b1) (by omega) fun i v h' tk bs e1 e2 e3 => ext_end I e3 (canAll he b2) rv ha (by simpa using e1) e2 q
  · obtain ⟨its, rv, pl, _⟩ := I.tuple hs
    obtain ⟨as, rs⟩ := Dp.readsAll I _ _ its ha rv
    exact PySem.W.min_tuple_data (I.ok.hd hc) (show s.heap.IsTuple a its.toArray from pl) rs (alikeB_all b1) (by omega) fun i v h' tk bs e1 e2 e3 => ext_end I e3 (canAll he b2) rv ha (by simpa using e1) e2 q
theorem cv_ext {id : String} {f : D → List D → D} (h : CallR X (.builtin id) (rExt X.K f)) (G : D → Option D) (hG : ∀ a d, G a = some d → ∃ y ys, itemsD a = some (y :: ys) ∧ (alikeB (y :: ys) && SeqAt.shaped a) = true ∧ d = f y ys) : CallV X (.builtin id) (one1 G) :=
  cv1 h fun Zs v H a d Q hz hv hg k => by
    obtain ⟨y, ys, he, hb, rfl⟩ := hG a d hg
    have hs := (Bool.and_eq_true_iff.mp hb).2
    have hdp := hv.dp (noDic_of hs)
    cases a <;> first | cases he | skip
    · obtain ⟨p, xs, rfl, h1, h2⟩ := hv.lst
      refine ⟨_, y, ys, p, xs, rfl, rfl, hb, hdp, .inl h1, (DqAll.mono (hide_same _ _) h2).dp (by have n := noDic_of hs; unfold nd0 at n; exact n), fun i v e1 e2 => ?_⟩
      obtain ⟨d', e3, e4⟩ := DqAll.getV h2 e1
      rw [e2] at e3
      cases e3
      exact k _ _ (Same.refl _) e4
    · obtain ⟨p, xs, rfl, h1, h2, _⟩ := hv.tup
      refine ⟨_, y, ys, p, xs, rfl, rfl, hb, hdp, .inr h1, (DqAll.mono (hide_same _ _) h2).dp (by have n := noDic_of hs; unfold nd0 at n; exact n), fun i v e1 e2 => ?_⟩
      obtain ⟨d', e3, e4⟩ := DqAll.getV h2 e1
      rw [e2] at e3
      cases e3
      exact k _ _ (Same.refl _) e4
theorem ext_some {f : D → List D → D} {a d : D} (h : ((itemsD a).bind fun xs => match xs with
  | [] => none
  | x :: r => if (alikeB (x :: r) && SeqAt.shaped a) = true then some (f x r) else none) = some d) : ∃ y ys, itemsD a = some (y :: ys) ∧ (alikeB (y :: ys) && SeqAt.shaped a) = true ∧ d = f y ys := by
  obtain ⟨xs, h1, h2⟩ := Option.bind_eq_some_iff.mp h
  cases xs with
  | nil => cases h2
  | cons y ys =>
    by_cases hb : (alikeB (y :: ys) && SeqAt.shaped a) = true
    · have h2 : (if (alikeB (y :: ys) && SeqAt.shaped a) = true then some (f y ys) else none) = some d := h2
      rw [if_pos hb] at h2
      cases h2
      exact ⟨y, ys, h1, hb, rfl⟩
    · have h2 : (if (alikeB (y :: ys) && SeqAt.shaped a) = true then some (f y ys) else none) = some d := h2
      rw [if_neg hb] at h2
      cases h2
theorem cv_max1 (hu : HU X) (hc : X.calm = true := by rfl) : CallV X (.builtin "max") (one1 maxV) := cv_ext (cr_maxD2 hc hu) maxV fun _ _ h => ext_some h
theorem cv_min1 (hu : HU X) (hc : X.calm = true := by rfl) : CallV X (.builtin "min") (one1 minV) := cv_ext (cr_minD2 hc hu) minV fun _ _ h => ext_some h
def max2D : D → D → Option D
  | .int i, .int j => some (.int (if j > i then j else i))
  | _, _ => none
def min2D : D → D → Option D
  | .int i, .int j => some (.int (if j < i then j else i))
  | _, _ => none
theorem cv_two {f : Value} {r : List V → Hp → VK → Prop} {g : D → D → Option D} (h : CallR X f r) (k : ∀ (Zs : List Addr) (v w : V) (H : Hp) (a b d : D) (Q : VK), (∀ z ∈ Zs, H z ≠ none) → Br X.K Zs H a v → Br X.K Zs H b w → g a b = some d → (∀ v H', Same H H' → Dq X.K (hide Zs H') v d → Q v H') → r [v, w] H Q) : CallV X f (two2 g) :=
  ⟨r, h, fun Zs vs H ds d Q hz ha hg q => by
    obtain ⟨a, b, rfl, hg⟩ := two2_some hg
    obtain ⟨v, w, rfl, hv, hw⟩ := all2_2 ha
    exact k Zs v w H a b d Q hz hv hw hg q⟩
theorem cv_max2 (hc : X.calm = true := by rfl) : CallV X (.builtin "max") (two2 max2D) := cv_two (call_max2 hc) fun Zs v w H a b d Q hz ha hb hg k => by
  cases a <;> cases b <;> first | cases hg | skip
  exact ⟨_, _, by rw [ha.int, hb.int], k _ _ (Same.refl _) (.int _)⟩
theorem cv_min2 (hc : X.calm = true := by rfl) : CallV X (.builtin "min") (two2 min2D) := cv_two (call_min2 hc) fun Zs v w H a b d Q hz ha hb hg k => by
  cases a <;> cases b <;> first | cases hg | skip
  exact ⟨_, _, by rw [ha.int, hb.int], k _ _ (Same.refl _) (.int _)⟩
/-- sum, all, any of a list -/
def lstD : D → Option (List D)
  | .list xs => some xs
  | _ => none
def sumD (a : D) : Option D := (lstD a).bind fun xs => (intsD xs).map fun ns => .int ns.sum
def allD (a : D) : Option D := (lstD a).bind fun xs => (boolsD xs).map fun ns => .bool (ns.all id)
def anyD (a : D) : Option D := (lstD a).bind fun xs => (boolsD xs).map fun ns => .bool (ns.any id)
theorem lstD_some {a : D} {xs : List D} (h : lstD a = some xs) : a = .list xs := by
  cases a <;> first | cases h | skip
  rfl
theorem cv_sum (hc : X.calm = true := by rfl) : CallV X (.builtin "sum") (one1 sumD) := cv1 (cr_sum hc) fun Zs v H a d Q hz hv hg k => by
  obtain ⟨xs, h1, h2⟩ := Option.bind_eq_some_iff.mp hg
  obtain ⟨ns, h3, rfl⟩ := Option.map_eq_some_iff.mp h2
  obtain rfl := lstD_some h1
  obtain rfl := intsD_some h3
  obtain ⟨p, us, rfl, e1, e2⟩ := hv.lst
  obtain rfl := DqAll.ints e2
  exact ⟨p, ns, rfl, e1, k _ _ (Same.refl _) (.int _)⟩
theorem cv_all (hc : X.calm = true := by rfl) : CallV X (.builtin "all") (one1 allD) := cv1 (cr_all hc) fun Zs v H a d Q hz hv hg k => by
  obtain ⟨xs, h1, h2⟩ := Option.bind_eq_some_iff.mp hg
  obtain ⟨ns, h3, rfl⟩ := Option.map_eq_some_iff.mp h2
  obtain rfl := lstD_some h1
  obtain rfl := boolsD_some h3
  obtain ⟨p, us, rfl, e1, e2⟩ := hv.lst
  obtain rfl := DqAll.bools e2
  exact ⟨p, ns, rfl, e1, k _ _ (Same.refl _) (.bl _)⟩
theorem cv_any (hc : X.calm = true := by rfl) : CallV X (.builtin "any") (one1 anyD) := cv1 (cr_any hc) fun Zs v H a d Q hz hv hg k => by
  obtain ⟨xs, h1, h2⟩ := Option.bind_eq_some_iff.mp hg
  obtain ⟨ns, h3, rfl⟩ := Option.map_eq_some_iff.mp h2
  obtain rfl := lstD_some h1
  obtain rfl := boolsD_some h3
  obtain ⟨p, us, rfl, e1, e2⟩ := hv.lst
  obtain rfl := DqAll.bools e2
  exact ⟨p, ns, rfl, e1, k _ _ (Same.refl _) (.bl _)⟩
/-- tuple(list) -/
def tupD (a : D) : Option D := (lstD a).map .tuple
theorem cv_tuple : CallV X (.type "tuple") (one1 tupD) := cv1 call_tuple_of fun Zs v H a d Q hz hv hg k => by
  obtain ⟨xs, h1, rfl⟩ := Option.map_eq_some_iff.mp hg
  obtain rfl := lstD_some h1
  obtain ⟨p, us, rfl, e1, e2⟩ := hv.lst
  exact ⟨p, us, rfl, .inl ⟨e1, fun l hl => k _ _ (same_new hl _) (new_tup hz hl e2)⟩⟩
/-- list(list or tuple) -/
def listD (a : D) : Option D := (itemsD a).map .list
theorem co_list : CallO X .dat (.type "list") (one1 listD) := co1 call_list_of fun Zs v H a d Q hz hv hg k => by
  obtain ⟨xs, h1, rfl⟩ := Option.map_eq_some_iff.mp hg
  cases a <;> first | cases h1 | skip
  · obtain ⟨p, us, rfl, e1, e2⟩ := hv.lst
    exact ⟨p, us, rfl, .inl e1, fun l hl => k l _ _ (same_new hl _) hl upd_same (.lst _ _ (DqAll.mono (hide_push hl) e2)) rfl⟩
  · obtain ⟨p, us, rfl, e1, e2, _⟩ := hv.tup
    exact ⟨p, us, rfl, .inr e1, fun l hl => k l _ _ (same_new hl _) hl upd_same (.lst _ _ (DqAll.mono (hide_push hl) e2)) rfl⟩
def absD : D → Option D
  | .int i => some (.int (if i < 0 then -i else i))
  | _ => none
theorem cv_abs : CallV X (.builtin "abs") (one1 absD) := cv1 call_abs fun Zs v H a d Q hz hv hg k => by
  cases a <;> first | cases hg | skip
  exact ⟨_, by rw [hv.int], k _ _ (Same.refl _) (.int _)⟩
def intD : D → Option D
  | .int i => some (.int i)
  | .bool b => some (.int (if b then 1 else 0))
  | _ => none
theorem cv_int : CallV X (.type "int") (one1 intD) := cv1 call_int1 fun Zs v H a d Q hz hv hg k => by
  cases a <;> first | cases hg | skip
  · rename_i b
    exact .inr ⟨b, by rw [hv.bl], k _ _ (Same.refl _) (.int _)⟩
  · rename_i i
    exact .inl ⟨i, by rw [hv.int], k _ _ (Same.refl _) (.int _)⟩
/-- repr of data, where no repr runs around -/
def reprD (d : D) : Option D := if (d.showable && SeqAt.shaped d && decide (d.shown.length ≤ lineN)) = true then some (.str d.shown) else none
theorem hasDict_of_shaped {d : D} (h : SeqAt.shaped d = true) : d.hasDict = false := PyData.hasDict_of_canLay _ (SeqAt.canLay_of_shaped h)
def rRepr (K : PySem.W.Frag) : List V → Hp → VK → Prop := fun vs H Q => ∃ v d, vs = [v] ∧ Dp K H v d ∧ (d.showable && SeqAt.shaped d && decide (d.shown.length ≤ lineN)) = true ∧ Q (.str d.shown) H
theorem cr_repr (hu : HU X) (hg : X.A.guards = some []) : CallR X (.builtin "repr") (rRepr X.K) := by
  intro pins s σ H vs us Q I r h
  obtain ⟨v, d, rfl, hd, hb, q⟩ := h
  obtain ⟨hb, hz⟩ := Bool.and_eq_true_iff.mp hb
  obtain ⟨h1, h2⟩ := Bool.and_eq_true_iff.mp hb
  have hz : d.shown.length ≤ sizeLine := Nat.le_trans (of_decide_eq_true hz) lineN_le
  have hu : X.A.units + 100 < cLine := hu
  have hdep := SeqAt.depth_of_shaped h2
  cases r with
  | cons rv rr =>
    cases rr
    rename_i u
    obtain ⟨as, rd⟩ := Dp.reads I d v u hd rv
    cases rd with
    | none => exact PySem.P.repr_of_none ⟨.str _, H, I.tok _, ⟨_, rfl⟩, q⟩
    | bool b => exact PySem.P.repr_of_bool ⟨.str _, H, I.tok _, ⟨_, rfl⟩, q⟩
    | int i t => exact PySem.P.repr_of_int (by simpa [PyData.showable] using h1) ⟨.str _, H, I.tok _, ⟨_, rfl⟩, q⟩
    | str x t => exact PySem.P.repr_of_str ⟨.str _, H, I.tok _, ⟨_, rfl⟩, q⟩ hz
    | list a1 a2 a3 a4 =>
      exact repr_of_reads' (.list a1 a2 a3 a4) h1 (PyData.noDict_hsm (hasDict_of_shaped h2)) hg (by omega) (fun _ _ e => e) (fun h' u tk hk => ⟨.str _, H, I.kept hk, ⟨_, rfl⟩, q⟩) hz
    | tuple a1 a2 a3 a4 =>
      exact repr_of_reads' (.tuple a1 a2 a3 a4) h1 (PyData.noDict_hsm (hasDict_of_shaped h2)) hg (by omega) (fun _ _ e => e) (fun h' u tk hk => ⟨.str _, H, I.kept hk, ⟨_, rfl⟩, q⟩) hz
    | dict a1 a2 a3 a4 a5 => cases (SeqAt.canLay_of_shaped h2)
theorem cv_repr (hu : HU X) (hg : X.A.guards = some []) : CallV X (.builtin "repr") (one1 reprD) := cv1 (cr_repr hu hg) fun Zs v H a d Q hz hv hgd k => by
  unfold reprD at hgd
  by_cases hb : (a.showable && SeqAt.shaped a && decide (a.shown.length ≤ lineN)) = true
  · rw [if_pos hb] at hgd
    cases hgd
    have h2 := (Bool.and_eq_true_iff.mp (Bool.and_eq_true_iff.mp hb).1).2
    exact ⟨v, a, rfl, hv.dp (noDic_of h2), hb, k _ _ (Same.refl _) (.str _)⟩
  · rw [if_neg hb] at hgd
    cases hgd
end
end VL
/-! the value layer: tests, and/or, subscripts, slices, isinstance, dicts read -/
namespace VL
open PySem
open PySem.Spec
open L2

section
variable {X : Cx} {c : Ct} {U : List Nat}
theorem fe_nd {e : Expr} {F : SE → M D} (h : FR X c U .nd e F) : FE X c U e F := by
  obtain ⟨t, p, r⟩ := h
  exact ⟨t, p, fun Z H0 O en σ H m Q hE hG => r Z H0 O en σ H m Q hE (hG.mono (fun d m' k v H' s1 d1 q => k v H' s1 d1 q.1) fun _ _ k => k)⟩
/-! ### tests -/
/-- an expression that gives a bool -/
theorem ft_val {e : Expr} {F : SE → M D} (h : FE X c U e F) (he : ∀ whole, isTrue e X.env whole = (do let v ← whole; standAt e.pos; holding [v] (truthy v)) := by intro _; rfl) : FT X c U e (tV asB F) := by
  obtain ⟨t, p, r⟩ := h
  refine ⟨_, pt_val p he, fun Z H0 O en σ H m Q hE hG => ?_⟩
  refine r Z H0 O en σ H m _ hE (hG.bd.mono (fun d m1 k1 v H1 s1 d1 q1 => ?_) fun _ _ k => k)
  obtain ⟨b, hb, k2⟩ := k1.lft
  obtain rfl := asB_some hb
  cases (show Dq X.K _ v (.bool b) from q1)
  exact ⟨b, rfl, k2 H1 s1 d1⟩
/-- .. by its truth -/
theorem ft_truth {e : Expr} {F : SE → M D} (h : FB X c U e F) (he : ∀ whole, isTrue e X.env whole = (do let v ← whole; standAt e.pos; holding [v] (truthy v)) := by intro _; rfl) : FT X c U e (tV truD F) := by
  obtain ⟨t, p, r⟩ := h
  refine ⟨_, pt_truth p he, fun Z H0 O en σ H m Q hE hG => ?_⟩
  refine r Z H0 O en σ H m _ hE (hG.bd.mono (fun d m1 k1 v H1 s1 d1 q1 => ?_) fun _ _ k => k)
  obtain ⟨b, hb, k2⟩ := k1.lft
  refine ⟨b, ?_, k2 H1 s1 d1⟩
  cases d <;> first | cases hb | skip
  · obtain rfl := q1.1.non
    rfl
  · obtain rfl := q1.1.bl
    rfl
  · obtain rfl := q1.1.int
    rfl
  · obtain ⟨a, xs, rfl, h1, h2⟩ := q1.1.lst
    exact .inl ⟨xs, h1, by cases h2 <;> rfl⟩
  · obtain ⟨a, xs, rfl, h1, h2, _⟩ := q1.1.tup
    exact .inr (.inl ⟨xs, h1, by cases h2 <;> rfl⟩)
theorem ft_not {e : Expr} {pos : Pos} {F : SE → M Bool} (h : FT X c U e F) : FT X c U (.UnaryOp .Not e pos) (tNot1 F) := by
  obtain ⟨t, p, r⟩ := h
  exact ⟨_, pt_not p, fun Z H0 O en σ H m Q hE hG => r Z H0 O en σ H m _ hE (hG.bd.mono (fun b m1 k1 H1 s1 d1 => k1 H1 s1 d1) fun _ _ k => k)⟩
theorem ft_w {e : Expr} {F : SE → M Bool} (h : FW X c U e F) : FT X c U e F := by
  obtain ⟨t, p, r⟩ := h
  exact ⟨t, p.pt, r⟩
theorem fw_and1 {a : Expr} {pos : Pos} {F : SE → M Bool} (h : FT X c U a F) : FW X c U (.BoolOp .And [a] pos) F := by
  obtain ⟨t, p, r⟩ := h
  exact ⟨t, pw_and1 p, r⟩
theorem fw_or1 {a : Expr} {pos : Pos} {F : SE → M Bool} (h : FT X c U a F) : FW X c U (.BoolOp .Or [a] pos) F := by
  obtain ⟨t, p, r⟩ := h
  exact ⟨t, pw_or1 p, r⟩
theorem fw_and {a b : Expr} {rest : List Expr} {pos : Pos} {F G : SE → M Bool} (h : FT X c U a F) (k : FW X c U (.BoolOp .And (b :: rest) pos) G) : FW X c U (.BoolOp .And (a :: b :: rest) pos) (tAnd2 F G) := by
  obtain ⟨ta, pa, ra⟩ := h
  obtain ⟨tb, pb, rb⟩ := k
  refine ⟨_, pw_and pa pb, fun Z H0 O en σ H m Q hE hG => ?_⟩
  refine ra Z H0 O en σ H m _ hE (hG.bd.mono (fun b m1 k1 H1 s1 d1 => ?_) fun _ _ k => k)
  cases b with
  | true => exact rb Z H0 O en σ H1 m1 _ (hE.step s1 d1) (Good.mono k1 (fun b2 m2 k2 H2 s2 d2 => k2 H2 (s1.trans s2) d2) fun _ _ k => ExK.step k s1)
  | false => exact k1 H1 s1 d1
theorem fw_or {a b : Expr} {rest : List Expr} {pos : Pos} {F G : SE → M Bool} (h : FT X c U a F) (k : FW X c U (.BoolOp .Or (b :: rest) pos) G) : FW X c U (.BoolOp .Or (a :: b :: rest) pos) (tOr2 F G) := by
  obtain ⟨ta, pa, ra⟩ := h
  obtain ⟨tb, pb, rb⟩ := k
  refine ⟨_, pw_or pa pb, fun Z H0 O en σ H m Q hE hG => ?_⟩
  refine ra Z H0 O en σ H m _ hE (hG.bd.mono (fun b m1 k1 H1 s1 d1 => ?_) fun _ _ k => k)
  cases b with
  | false => exact rb Z H0 O en σ H1 m1 _ (hE.step s1 d1) (Good.mono k1 (fun b2 m2 k2 H2 s2 d2 => k2 H2 (s1.trans s2) d2) fun _ _ k => ExK.step k s1)
  | true => exact k1 H1 s1 d1
/-! ### and, or, not as values (bools), a if t else b, a chain as a value -/
def eAnd (F G : SE → M D) : SE → M D := fun en => do
  let a ← F en
  let b ← lft (asB a)
  if b = true then G en else pure (.bool false)
def eOr (F G : SE → M D) : SE → M D := fun en => do
  let a ← F en
  let b ← lft (asB a)
  if b = true then pure (.bool true) else G en
def notD : D → Option D
  | .bool b => some (.bool (!b))
  | _ => none
theorem fe_one {op} {a : Expr} {pos : Pos} {F : SE → M D} (h : FE X c U a F) : FE X c U (.BoolOp op [a] pos) F := by
  obtain ⟨t, p, r⟩ := h
  exact ⟨t, pe_one p, r⟩
theorem fe_and {a b : Expr} {rest : List Expr} {pos : Pos} {F G : SE → M D} (h : FE X c U a F) (k : FE X c U (.BoolOp .And (b :: rest) pos) G) : FE X c U (.BoolOp .And (a :: b :: rest) pos) (eAnd F G) := by
  obtain ⟨ta, pa, ra⟩ := h
  obtain ⟨tb, pb, rb⟩ := k
  refine ⟨_, pe_and pa pb, fun Z H0 O en σ H m Q hE hG => ?_⟩
  refine ra Z H0 O en σ H m _ hE (hG.bd.mono (fun a m1 k1 x H1 s1 d1 q1 => ?_) fun _ _ k => k)
  obtain ⟨b, hb, k2⟩ := k1.bd.lft
  obtain rfl := asB_some hb
  cases (show Dq X.K _ x (.bool b) from q1)
  refine ⟨b, rfl, ?_⟩
  cases b with
  | true => exact rb Z H0 O en σ H1 m1 _ (hE.step s1 d1) (Good.mono k2 (fun d2 m2 k3 v H2 s2 d2 q2 => k3 v H2 (s1.trans s2) d2 q2) fun _ _ k => ExK.step k s1)
  | false => exact k2 _ H1 s1 d1 (.bl false)
theorem fe_or {a b : Expr} {rest : List Expr} {pos : Pos} {F G : SE → M D} (h : FE X c U a F) (k : FE X c U (.BoolOp .Or (b :: rest) pos) G) : FE X c U (.BoolOp .Or (a :: b :: rest) pos) (eOr F G) := by
  obtain ⟨ta, pa, ra⟩ := h
  obtain ⟨tb, pb, rb⟩ := k
  refine ⟨_, pe_or pa pb, fun Z H0 O en σ H m Q hE hG => ?_⟩
  refine ra Z H0 O en σ H m _ hE (hG.bd.mono (fun a m1 k1 x H1 s1 d1 q1 => ?_) fun _ _ k => k)
  obtain ⟨b, hb, k2⟩ := k1.bd.lft
  obtain rfl := asB_some hb
  cases (show Dq X.K _ x (.bool b) from q1)
  refine ⟨b, rfl, ?_⟩
  cases b with
  | false => exact rb Z H0 O en σ H1 m1 _ (hE.step s1 d1) (Good.mono k2 (fun d2 m2 k3 v H2 s2 d2 q2 => k3 v H2 (s1.trans s2) d2 q2) fun _ _ k => ExK.step k s1)
  | true => exact k2 _ H1 s1 d1 (.bl true)
theorem fe_not {a : Expr} {pos : Pos} {F : SE → M D} (h : FE X c U a F) : FE X c U (.UnaryOp .Not a pos) (e1 notD F) := by
  obtain ⟨ta, pa, ra⟩ := h
  refine ⟨_, pe_not pa, fun Z H0 O en σ H m Q hE hG => ?_⟩
  refine ra Z H0 O en σ H m _ hE (hG.bd.mono (fun a m1 k1 x H1 s1 d1 q1 => ?_) fun _ _ k => k)
  obtain ⟨d, hd, k2⟩ := k1.lft
  cases a <;> first | cases hd | skip
  rename_i b
  cases (show Dq X.K _ x (.bool b) from q1)
  exact ⟨b, rfl, k2 _ H1 s1 d1 (.bl _)⟩
theorem fr_if {k : Kd} {t a b : Expr} {pos : Pos} {T : SE → M Bool} {F G : SE → M D} (ht : FT X c U t T) (ha : FR X c U k a F) (hb : FR X c U k b G) : FR X c U k (.IfExp t a b pos) (eIf T F G) := by
  obtain ⟨tt, pt, rt⟩ := ht
  obtain ⟨ta, pa, ra⟩ := ha
  obtain ⟨tb, pb, rb⟩ := hb
  refine ⟨_, pe_ifExp pt pa pb, fun Z H0 O en σ H m Q hE hG => ?_⟩
  refine rt Z H0 O en σ H m _ hE (hG.bd.mono (fun b m1 k1 H1 s1 d1 => ?_) fun _ _ k => k)
  cases b with
  | true => exact ra Z H0 O en σ H1 m1 _ (hE.step s1 d1) (Good.mono k1 (fun d2 m2 k3 v H2 s2 d2 q2 => k3 v H2 (s1.trans s2) d2 q2) fun _ _ k => ExK.step k s1)
  | false => exact rb Z H0 O en σ H1 m1 _ (hE.step s1 d1) (Good.mono k1 (fun d2 m2 k3 v H2 s2 d2 q2 => k3 v H2 (s1.trans s2) d2 q2) fun _ _ k => ExK.step k s1)
theorem fe_if {t a b : Expr} {pos : Pos} {T : SE → M Bool} {F G : SE → M D} (ht : FT X c U t T) (ha : FE X c U a F) (hb : FE X c U b G) : FE X c U (.IfExp t a b pos) (eIf T F G) := fr_if ht ha hb
theorem fe_chain {op op' : CmpOp} {ea eb ec : Expr} {pos : Pos} {F G L : SE → M D} {g g' : D → D → Option D} (ho : OpV X (compareOp op) g) (ho' : OpV X (compareOp op') g') (ha : FB X c U ea F) (hb : FB X c U eb G) (hc : FB X c U ec L)
    (hm : lastMarks [op, op'] [eb, ec] = false := by with_unfolding_all rfl) : FE X c U (.Compare ea [op, op'] [eb, ec] pos) (eB (e3c g g' F G L)) := by
  obtain ⟨ta, pa, ra⟩ := ha
  obtain ⟨tb, pb, rb⟩ := hb
  obtain ⟨tc, pc, rc⟩ := hc
  obtain ⟨r, po, ro⟩ := ho
  obtain ⟨r', po', ro'⟩ := ho'
  refine ⟨_, pe_chain po po' pa pb pc hm, fun Z H0 O en σ H m Q hE hG => ?_⟩
  refine ra Z H0 O en σ H m _ hE (hG.bd.bd.mono (fun a m1 k1 x H1 s1 d1 q1 => ?_) fun _ _ k => k)
  refine rb Z H0 O en σ H1 m1 _ (hE.step s1 d1) (k1.bd.mono (fun b m2 k2 y H2 s2 d2 q2 => ?_) fun _ _ k => k.step s1)
  obtain ⟨k, hk, k3⟩ := k2.bd.lft
  obtain ⟨d, hg, hd⟩ := Option.bind_eq_some_iff.mp hk
  obtain rfl := asB_some hd
  refine ro _ x y H2 a b _ _ (hE.step (s1.trans s2) d2).zt (q1.2 H2 s2) q2.1 hg fun v H3 s3 q3 => ?_
  cases (show Dq X.K _ v (.bool k) from q3)
  have d3 := d2.same s3
  have s13 : SameW c.W H H3 := (s1.trans s2).trans (.of s3)
  refine ⟨k, rfl, ?_⟩
  cases k with
  | false =>
    have k3 : Good ((pure false : M Bool) m2) _ _ := k3
    exact k3 _ H3 s13 d3 (.bl false)
  | true =>
    refine rc Z H0 O en σ H3 m2 _ (hE.step s13 d3) (Good.mono (Good.bd k3) (fun z m4 k4 w H4 s4 d4 q4 => ?_) fun _ _ k => ExK.step k s13)
    obtain ⟨bo, hbo, k5⟩ := k4.lft
    obtain ⟨d', hg', hd'⟩ := Option.bind_eq_some_iff.mp hbo
    obtain rfl := asB_some hd'
    refine ro' _ y w H4 b z _ _ (hE.step (s13.trans s4) d4).zt (q2.2 H4 ((SameW.of s3).trans s4)) q4.1 hg' fun v H5 s5 q5 => ?_
    exact k5 v H5 ((s13.trans s4).trans (.of s5)) (d4.same s5) q5
theorem fe_neg {a : Expr} {pos : Pos} {F : SE → M D} (h : FE X c U a F) : FE X c U (.UnaryOp .USub a pos) (e1 negD F) := by
  obtain ⟨ta, pa, ra⟩ := h
  refine ⟨_, pe_un un_neg pa, fun Z H0 O en σ H m Q hE hG => ?_⟩
  refine ra Z H0 O en σ H m _ hE (hG.bd.mono (fun a m1 k1 x H1 s1 d1 q1 => ?_) fun _ _ k => k)
  obtain ⟨d, hd, k2⟩ := k1.lft
  cases a <;> first | cases hd | skip
  rename_i b
  cases (show Dq X.K _ x (.int b) from q1)
  exact ⟨b, rfl, k2 _ H1 s1 d1 (.int _)⟩
/-- x is None, x is not None: the right side written -/
theorem ov_isN : OpV X (compareOp .Is) isN := ⟨_, op_isN, fun Zs x y H a b d Q hz ha hb hg k => by
  cases b <;> first | cases hg | skip
  refine ⟨hb.non, ?_⟩
  rw [ha.isNone]
  exact k _ _ (Same.refl _) (.bl _)⟩
theorem ov_isNN : OpV X (compareOp .IsNot) isNN := ⟨_, op_notN, fun Zs x y H a b d Q hz ha hb hg k => by
  cases b <;> first | cases hg | skip
  refine ⟨hb.non, ?_⟩
  rw [ha.isNone]
  exact k _ _ (Same.refl _) (.bl _)⟩

/-! ### subscripts -/
/-- the place of an index, of any sign -/
def atD (xs : List D) (i : Int) : Option D := atI xs i
def ixD (a b : D) : Option D := match a, b with
  | .list xs, .int i => atD xs i
  | .tuple xs, .int i => atD xs i
  | _, _ => none
theorem at_dq {K : PySem.W.Frag} {H : Hp} {xs : List V} {ds : List D} {i : Int} {d : D} (h : DqAll K H xs ds) (e : atI ds i = some d) : ∃ v, atI xs i = some v ∧ Dq K H v d := by
  unfold atI at e ⊢
  rw [DqAll.length h]
  obtain ⟨j, h1, h2⟩ := Option.bind_eq_some_iff.mp e
  obtain ⟨v, h3, h4⟩ := DqAll.get h h2
  exact ⟨v, by rw [h1]; exact h3, h4⟩
theorem fe_ix {a b : Expr} {pos : Pos} {F G : SE → M D} (ha : FB X c U a F) (hb : FE X c U b G) (hs : PlainIx b := by exact fun _ _ => rfl) : FE X c U (.Subscript a b pos) (e2 ixD F G) := by
  obtain ⟨ta, pa, ra⟩ := ha
  obtain ⟨tb, pb, rb⟩ := hb
  refine ⟨_, pe_ix (ix_list.or ix_tup) pa pb hs, fun Z H0 O en σ H m Q hE hG => ?_⟩
  refine ra Z H0 O en σ H m _ hE (hG.bd.mono (fun a m1 k1 x H1 s1 d1 q1 => ?_) fun _ _ k => k)
  refine rb Z H0 O en σ H1 m1 _ (hE.step s1 d1) (k1.bd.mono (fun b m2 k2 y H2 s2 d2 q2 => ?_) fun _ _ k => k.step s1)
  obtain ⟨d, hd, k3⟩ := k2.lft
  have q1 := q1.2 H2 s2
  cases a <;> cases b <;> first | cases hd | skip
  · obtain ⟨p, xs, rfl, h1, h2⟩ := q1.lst
    cases (show Dq X.K _ y (.int _) from q2)
    obtain ⟨v, e1, e2⟩ := at_dq h2 hd
    exact .inl ⟨p, xs, _, v, rfl, rfl, h1, e1, k3 v H2 (s1.trans s2) d2 e2⟩
  · obtain ⟨p, xs, rfl, h1, h2, _⟩ := q1.tup
    cases (show Dq X.K _ y (.int _) from q2)
    obtain ⟨v, e1, e2⟩ := at_dq h2 hd
    exact .inr ⟨p, xs, _, v, rfl, rfl, h1, e1, k3 v H2 (s1.trans s2) d2 e2⟩
/-- a part of a slice -/
def FP (X : Cx) (c : Ct) (U : List Nat) (e : Option Expr) (F : SE → M (Option Int)) : Prop :=
  ∃ t : TO, PO X e t ∧ ∀ Z H0 O en σ H m Q, EnvOk X.K c.W c.ms c.dk Z H0 U O en σ H m →
    Good (F en m) (fun d m' => ∀ H', SameW c.W H H' → DrawOk c.W H' m' → Q d H') (fun x m' => ExK X c (ZO Z O) σ H x m') → t σ H Q
def pN : SE → M (Option Int) := fun _ => pure none
def asI : D → Option Int
  | .int i => some i
  | _ => none
def pS (F : SE → M D) : SE → M (Option Int) := fun en => do
  let a ← F en
  let i ← lft (asI a)
  pure (some i)
theorem fp_none : FP X c U none pN := ⟨_, po_none, fun Z H0 O en σ H m Q hE hG => hG H (SameW.refl _ _) hE.dr⟩
theorem fp_some {e : Expr} {F : SE → M D} (h : FE X c U e F) : FP X c U (some e) (pS F) := by
  obtain ⟨t, p, r⟩ := h
  refine ⟨_, po_some p, fun Z H0 O en σ H m Q hE hG => ?_⟩
  refine r Z H0 O en σ H m _ hE (hG.bd.mono (fun a m1 k1 x H1 s1 d1 q1 => ?_) fun _ _ k => k)
  obtain ⟨i, hi, k2⟩ := k1.bd.lft
  cases a <;> first | cases hi | skip
  cases (show Dq X.K _ x (.int _) from q1)
  exact ⟨_, rfl, k2 H1 s1 d1⟩
/-- xs[lo:hi] -/
def cutD (xs : List D) (lo hi : Option Int) : List D := (xs.drop (HT.sIx xs.length 0 lo)).take (HT.sIx xs.length xs.length hi - HT.sIx xs.length 0 lo)
def slD (F : SE → M D) (P P' : SE → M (Option Int)) : SE → M D := fun en => do
  let a ← F en
  let lo ← P en
  let hi ← P' en
  lft (match a with
    | .list xs => some (.list (cutD xs lo hi))
    | .tuple xs => some (.tuple (cutD xs lo hi))
    | _ => none)
theorem cut_dq {K : PySem.W.Frag} {H : Hp} {xs : List V} {ds : List D} {lo hi : Option Int} (h : DqAll K H xs ds) : DqAll K H (cutV xs lo hi) (cutD ds lo hi) := by
  unfold cutV cutD
  rw [DqAll.length h]
  exact DqAll.take _ (DqAll.drop _ h)
/-- a slice of a list or of a tuple that is tracked wholly -/
theorem fe_sl {a : Expr} {lo hi : Option Expr} {p2 pos : Pos} {F : SE → M D} {P P' : SE → M (Option Int)} (ha : FE X c U a F) (hl : FP X c U lo P) (hh : FP X c U hi P') : FE X c U (.Subscript a (.Slice lo hi none p2) pos) (slD F P P') := by
  obtain ⟨ta, pa, ra⟩ := ha
  obtain ⟨tl, pl, rl⟩ := hl
  obtain ⟨th, ph, rh⟩ := hh
  refine ⟨_, pe_slice (sl_list.or sl_tupA) pa pl ph, fun Z H0 O en σ H m Q hE hG => ?_⟩
  refine ra Z H0 O en σ H m _ hE (hG.bd.mono (fun a m1 k1 x H1 s1 d1 q1 => ?_) fun _ _ k => k)
  refine rl Z H0 O en σ H1 m1 _ (hE.step s1 d1) (k1.bd.mono (fun lo m2 k2 H2 s2 d2 => ?_) fun _ _ k => k.step s1)
  refine rh Z H0 O en σ H2 m2 _ (hE.step (s1.trans s2) d2) (k2.bd.mono (fun hi m3 k3 H3 s3 d3 => ?_) fun _ _ k => k.step (s1.trans s2))
  obtain ⟨d, hd, k4⟩ := k3.lft
  have s13 := (s1.trans s2).trans s3
  have hE3 := hE.step s13 d3
  have q1 : Dq X.K (hide (ZO Z O) H3) x a := Dq.mono ((s2.trans s3).hide hE.wzo) q1
  cases a <;> first | cases hd | skip
  · obtain ⟨p, xs, rfl, h1, h2⟩ := Dq.lstE q1
    exact .inl ⟨p, xs, rfl, .inl (same_rd (hide_same _ _) h1), fun r hr => k4 _ _ (s13.trans (.of (same_new hr _))) (d3.same (same_new hr _)) (new_lst hE3.zt hr (cut_dq h2))⟩
  · obtain ⟨p, xs, rfl, h1, h2⟩ := Dq.tupE q1
    refine .inr ⟨p, xs, rfl, .inl (same_rd (hide_same _ _) h1), fun e => ?_, fun _ r hr => k4 _ _ (s13.trans (.of (same_new hr _))) (d3.same (same_new hr _)) (new_tup hE3.zt hr (cut_dq h2))⟩
    have e2 : ∀ ds : List D, DqAll X.K (hide (ZO Z O) H3) xs ds → cutD ds lo hi = ds := fun ds h2 => by
      unfold cutD
      rw [DqAll.length h2] at e
      rw [e.1, e.2]
      simp
    have k4 := k4 (.ref p) H3 s13 d3
    rw [e2 _ h2] at k4
    exact k4 (.tup h1 h2)
/-- isinstance(x, T) -/
def okT : D → Bool
  | .dict (_ :: _) => false
  | _ => true
def isT (T : String) : D → Option D := fun d => if okT d = true then (match T with
  | "int" => some (.bool d.isInt)
  | "bool" => some (.bool d.isBool)
  | "str" => some (.bool d.isStr)
  | "tuple" => some (.bool d.isTuple)
  | "list" => some (.bool d.isList)
  | _ => none) else none
def tyD : D → String
  | .none => "NoneType"
  | .bool _ => "bool"
  | .int _ => "int"
  | .str _ => "str"
  | .list _ => "list"
  | .tuple _ => "tuple"
  | .dict _ => "dict"
theorem Dq.ty {K : PySem.W.Frag} {H : Hp} {v : V} {d : D} (h : Dq K H v d) (n : okT d = true) : TyX K H v (.type (tyD d)) := by
  cases h with
  | non => exact .base .non
  | bl b => exact .base (.bl b)
  | int i => exact .base (.int i)
  | str x => exact .base (.str x)
  | lst h _ =>
    rcases h with h | ⟨o, h⟩
    · exact .base (.lst h)
    · exact .base (.frz h)
  | tup h _ =>
    rcases h with h | ⟨o, h⟩
    · exact .base (.tup h)
    · exact .fTuple h
  | emp h => exact .base (.dK h)
  | fn h => cases n
theorem isT_ok {T : String} {d e : D} (h : isT T d = some e) : okT d = true := by
  unfold isT at h
  by_cases q : okT d = true
  · exact q
  · rw [if_neg q] at h
    cases h
theorem isT_kit {K : PySem.W.Frag} {T : String} {d : D} {b : Bool} (h : isT T d = some (.bool b)) : PySem.W.kitOne K (.type (tyD d)) (.type T) = some b := by
  unfold isT at h
  rw [if_pos (isT_ok h)] at h
  split at h <;> first | cases h | skip
  all_goals (cases d <;> rfl)
theorem isT_bool {T : String} {a d : D} (h : isT T a = some d) : ∃ b, d = .bool b := by
  have q := isT_ok h
  unfold isT at h
  rw [if_pos q] at h
  split at h <;> first | (cases h; exact ⟨_, rfl⟩) | cases h
theorem fe_isi {T : String} {tx : Str} {p tp pos : Pos} {e : Expr} {F : SE → M D} (hm : X.mg "isinstance" = none) (ht : X.mg tx = none) (ha : FE X c U e F) (hv : bootBuiltins tx = some (.type T) := by decide +kernel) (hg : Gl X "isinstance" := by rfl) (hgt : Gl X tx := by rfl) (hn : tx ≠ "__name__" := by decide) (hdb : (tx == ("__debug__" : Str)) = false := by decide)
    (he1 : starEach [.Name tx tp] X.env = (false, eval (.Name tx tp) X.env) :: starEach [] X.env := by rfl)
    (he : starEach (e :: [.Name tx tp]) X.env = (false, eval e X.env) :: starEach [.Name tx tp] X.env := by rfl) (hpl : (backTo pos (starEach [.Name tx tp] X.env)).any (·.1) = false := by rfl) :
    FE X c U (.Call (.Name "isinstance" p) [e, .Name tx tp] [] pos) (e1 (isT T) F) := by
  obtain ⟨t, pa, r⟩ := ha
  refine ⟨_, pe_callB call_isi hg hm (by decide +kernel) (pa_cons pa (pa_cons (pe_bltn (v := .ty T) hgt ht hv rfl hn hdb) pa_nil he1) he) (by decide) (by decide) he hpl, fun Z H0 O en σ H m Q hE hG => ?_⟩
  refine r Z H0 O en σ H m _ hE (hG.bd.mono (fun a m1 k1 v H1 s1 d1 q1 => ?_) fun _ _ k => k)
  obtain ⟨d, hd, k2⟩ := k1.lft
  obtain ⟨b, rfl⟩ := isT_bool hd
  exact ⟨v, .ty T, _, _, b, rfl, .ty T, (Dq.mono (hide_same _ _) (show Dq X.K _ v a from q1)).ty (isT_ok hd), isT_kit hd, k2 _ H1 s1 d1 (.bl b)⟩
end
end VL
/-! the value layer: statements -/
namespace VL
open PySem
open PySem.Spec
open L2

/-- how a statement ends -/
inductive Ctl where
  | nx (e : SE)
  | bk (e : SE)
  | ct (e : SE)
  | rt (d : D)
section
variable {X : Cx} {c : Ct} {U Un UL : List Nat}
/-- what is wanted behind a statement that ends so -/
def KOk (X : Cx) (c : Ct) (Z : List Addr) (H0 : Hp) (UL Un : List Nat) (Ds : Ends) (m' : MS) : Ctl → Prop
  | .nx e' => ∀ O' σ' H', EnvOk X.K c.W c.ms c.dk Z H0 Un O' e' σ' H' m' → Ds.nx σ' H'
  | .bk e' => ∀ O' σ' H', EnvOk X.K c.W c.ms c.dk Z H0 UL O' e' σ' H' m' → Ds.bk σ' H'
  | .ct e' => ∀ O' σ' H', EnvOk X.K c.W c.ms c.dk Z H0 UL O' e' σ' H' m' → Ds.ct σ' H'
  | .rt d => ∀ v H', SameW c.W H0 H' → DrawOk c.W H' m' → Res X.K (hide Z H') c.rd d v → Ds.rt v H'
def RdS (X : Cx) (c : Ct) (UL U : List Nat) (t : TS) (S : SE → M Ctl) (Un : List Nat) : Prop :=
  ∀ Z H0 O en σ H m Ds, EnvOk X.K c.W c.ms c.dk Z H0 U O en σ H m → Good (S en m) (fun k m' => KOk X c Z H0 UL Un Ds m' k) (fun x m' => ∀ σ', ExK X c Z σ' H0 x m') → t Ds σ H
def FS (X : Cx) (c : Ct) (UL U : List Nat) (st : Stmt) (S : SE → M Ctl) (Un : List Nat) : Prop := ∃ t : TS, PS X st t ∧ RdS X c UL U t S Un
def FSs (X : Cx) (c : Ct) (UL U : List Nat) (st : List Stmt) (S : SE → M Ctl) (Un : List Nat) : Prop := ∃ t : TS, PSs X st t ∧ RdS X c UL U t S Un
/-- an exception of an expression, seen from the start -/
theorem ExK.out {Z : List Addr} {H0 H : Hp} {O : List (Nat × Addr)} {en : SE} {σ : St} {m : MS} {x : Exn} {m' : MS} (hE : EnvOk X.K c.W c.ms c.dk Z H0 U O en σ H m) (h : ∀ σ', ExK X c Z σ' H0 x m') : ExK X c (ZO Z O) σ H x m' := fun C od H' s d r => by
  refine h σ C od H' (hE.same.trans s) d ?_
  obtain ⟨Ca, dd, vs, h1, h2, h3, h4, h5⟩ := r
  have sub : Same (hide (ZO Z O) H') (hide Z H') := hide_sub fun b hb => List.mem_append_left _ hb
  exact ⟨Ca, dd, vs, h1, h2, h3, sub _ _ h4, DqAll.mono sub h5⟩

/-! ### in a row -/
def sNx : SE → M Ctl := fun en => pure (.nx en)
def sBk : SE → M Ctl := fun en => pure (.bk en)
def sCt : SE → M Ctl := fun en => pure (.ct en)
def thenC (T : SE → M Ctl) : Ctl → M Ctl
  | .nx e => T e
  | k => pure k
def sq (S T : SE → M Ctl) : SE → M Ctl := fun en => do
  let k ← S en
  thenC T k
theorem fss_nil : FSs X c UL U [] sNx U := ⟨_, pss_nil, fun Z H0 O en σ H m Ds hE hG => hG O σ H hE⟩
theorem fss_cons {st : Stmt} {rest : List Stmt} {S T : SE → M Ctl} {U1 : List Nat} (h1 : FS X c UL U st S U1) (h2 : FSs X c UL U1 rest T Un) : FSs X c UL U (st :: rest) (sq S T) Un := by
  obtain ⟨t, p, r⟩ := h1
  obtain ⟨u, p2, r2⟩ := h2
  refine ⟨_, pss_cons p p2, fun Z H0 O en σ H m Ds hE hG => r Z H0 O en σ H m _ hE (hG.bd.mono (fun k m1 k1 => ?_) fun _ _ k => k)⟩
  cases k with
  | nx e' => exact fun O' σ' H' hE' => r2 Z H0 O' e' σ' H' m1 Ds hE' k1
  | bk e' => exact k1
  | ct e' => exact k1
  | rt d => exact k1
theorem fss_one {st : Stmt} {S : SE → M Ctl} (h : FS X c UL U st S Un) : FSs X c UL U [st] S Un :=
  let ⟨t, p, r⟩ := h
  ⟨t, pss_one p, r⟩
/-- owned things given free ahead of a statement -/
theorem fs_fz {st : Stmt} {S : SE → M Ctl} (U1 : List Nat) (h : FS X c UL U1 st S Un) (hU : ∀ i ∈ U1, i ∈ U := by decide) : FS X c UL U st S Un := by
  obtain ⟨t, p, r⟩ := h
  exact ⟨t, p, fun Z H0 O en σ H m Ds hE hG => r Z H0 _ en σ H m Ds (hE.freeze hU) hG⟩
theorem fss_fz {st : List Stmt} {S : SE → M Ctl} (U1 : List Nat) (h : FSs X c UL U1 st S Un) (hU : ∀ i ∈ U1, i ∈ U := by decide) : FSs X c UL U st S Un := by
  obtain ⟨t, p, r⟩ := h
  exact ⟨t, p, fun Z H0 O en σ H m Ds hE hG => r Z H0 _ en σ H m Ds (hE.freeze hU) hG⟩
/-- .. behind it -/
theorem fss_wk {st : List Stmt} {S : SE → M Ctl} {U1 : List Nat} (h : FSs X c UL U st S U1) (hU : ∀ i ∈ Un, i ∈ U1 := by decide) : FSs X c UL U st S Un := by
  obtain ⟨t, p, r⟩ := h
  refine ⟨t, p, fun Z H0 O en σ H m Ds hE hG => r Z H0 O en σ H m Ds hE (hG.mono (fun k m1 k1 => ?_) fun _ _ k => k)⟩
  cases k with
  | nx e' => exact fun O' σ' H' hE' => k1 _ σ' H' (hE'.freeze hU)
  | bk e' => exact k1
  | ct e' => exact k1
  | rt d => exact k1
theorem fs_wk {st : Stmt} {S : SE → M Ctl} {U1 : List Nat} (h : FS X c UL U st S U1) (hU : ∀ i ∈ Un, i ∈ U1 := by decide) : FS X c UL U st S Un := by
  obtain ⟨t, p, r⟩ := h
  refine ⟨t, p, fun Z H0 O en σ H m Ds hE hG => r Z H0 O en σ H m Ds hE (hG.mono (fun k m1 k1 => ?_) fun _ _ k => k)⟩
  cases k with
  | nx e' => exact fun O' σ' H' hE' => k1 _ σ' H' (hE'.freeze hU)
  | bk e' => exact k1
  | ct e' => exact k1
  | rt d => exact k1
/-! ### small ones -/
theorem fs_pass {pos : Pos} : FS X c UL U (.Pass pos) sNx U := ⟨_, ps_pass, fun Z H0 O en σ H m Ds hE hG => hG O σ H hE⟩
theorem fs_brk {pos : Pos} : FS X c U U (.Break pos) sBk Un := ⟨_, ps_break, fun Z H0 O en σ H m Ds hE hG => hG O σ H hE⟩
theorem fs_cont {pos : Pos} : FS X c U U (.Continue pos) sCt Un := ⟨_, ps_continue, fun Z H0 O en σ H m Ds hE hG => hG O σ H hE⟩
/-- code that is not come to -/
def sNo : SE → M Ctl := fun _ => M.no
theorem fs_no {st : Stmt} : FS X c UL U st sNo Un := ⟨_, ps_never, fun Z H0 O en σ H m Ds hE hG => hG.elim⟩
theorem fss_no {st : List Stmt} : FSs X c UL U st sNo Un := ⟨_, pss_never, fun Z H0 O en σ H m Ds hE hG => hG.elim⟩
def sRet (F : SE → M D) : SE → M Ctl := fun en => do
  let d ← F en
  pure (.rt d)
theorem fs_ret {k : Kd} {e : Expr} {F : SE → M D} {pos : Pos} (h : FR X c U k e F) (hr : c.rd = k := by rfl) : FS X c UL U (.Return (some e) pos) (sRet F) Un := by
  obtain ⟨t, p, r⟩ := h
  refine ⟨_, ps_ret p, fun Z H0 O en σ H m Ds hE hG => r Z H0 O en σ H m _ hE (hG.bd.mono (fun d m1 k1 v H1 s1 d1 q1 => ?_) fun _ _ k => (ExK.out hE k))⟩
  refine k1 v H1 (hE.same.trans s1) d1 ?_
  rw [hr]
  exact q1.mono (hide_sub fun b hb => List.mem_append_left _ hb)
theorem fs_retN {pos : Pos} (hr : c.rd = .dat := by rfl) : FS X c UL U (.Return none pos) (sRet (eC .none)) Un := by
  refine ⟨_, ps_retN, fun Z H0 O en σ H m Ds hE hG => hG .non H hE.same hE.dr ?_⟩
  rw [hr]
  exact Dq.non
def sSet (i : Nat) (F : SE → M D) : SE → M Ctl := fun en => do
  let d ← F en
  pure (.nx (en.set i (some d)))
/-- name = value -/
theorem EnvOk.put' {K : PySem.W.Frag} {W : Option Wd} {ms : List Nat} {dk : Nat → Kd} {Z : List Addr} {H0 H : Hp} {U : List Nat} {O : List (Nat × Addr)} {e : SE} {σ : St} {m : MS} (h : EnvOk K W ms dk Z H0 U O e σ H m) {i : Nat} {d : D} {v : V} (hi : i ∉ U) (hm : i ∉ ms) (r : Res K (hide (ZO Z O) H) (dk i) d v) : EnvOk K W ms dk Z H0 U O (e.set i (some d)) (σ.set i (some v)) H m := by
  by_cases hl : i < σ.length
  · exact h.put hi hm hl r
  · rw [List.set_eq_of_length_le (by rw [h.len]; omega), List.set_eq_of_length_le (by omega)]
    exact h
theorem fs_set (i : Nat) {k : Kd} {x : Str} {e : Expr} {F : SE → M D} {pos pos' : Pos} (h : FR X c U k e F) (hN : X.N.Nodup) (hk : c.dk i = k := by rfl) (hU : i ∉ U := by decide) (hm : i ∉ c.ms := by (try dsimp only); decide) (hi : X.N[i]? = some x := by rfl)
    (hx : Loc X.env.scope x := by first | exact Or.inl rfl | exact Or.inr rfl) (hs : swapsWith e (some (.Name x pos')) pos.line X.env = pure false := by rfl) (hf : X.fn x = true ∨ X.env.scope.names.lookup x = some .local := by first | exact .inl rfl | exact .inr rfl) :
    FS X c UL U (.Assign [.Name x pos'] e pos) (sSet i F) U := by
  obtain ⟨t, p, r⟩ := h
  refine ⟨_, ps_set hN hi hx p hs hf, fun Z H0 O en σ H m Ds hE hG => r Z H0 O en σ H m _ hE (hG.bd.mono (fun d m1 k1 v H1 s1 d1 q1 => ?_) fun _ _ k => (ExK.out hE k))⟩
  subst hk
  exact k1 O _ H1 ((hE.step s1 d1).put' hU hm q1)
def sSetO (i : Nat) (F : SE → M D) : SE → M Ctl := fun en => do
  let d ← F en
  if i < en.length then pure (.nx (en.set i (some d))) else M.no
/-- name = a new object of its own -/
theorem fs_setO (i : Nat) {k : Kd} {x : Str} {e : Expr} {F : SE → M D} {pos pos' : Pos} (h : FO X c U k e F) (hN : X.N.Nodup) (hk : c.dk i = k := by rfl) (hU : i ∉ U := by decide) (hm : i ∉ c.ms := by (try dsimp only); decide) (hi : X.N[i]? = some x := by rfl)
    (hx : Loc X.env.scope x := by first | exact Or.inl rfl | exact Or.inr rfl) (hs : swapsWith e (some (.Name x pos')) pos.line X.env = pure false := by rfl) (hf : X.fn x = true ∨ X.env.scope.names.lookup x = some .local := by first | exact .inl rfl | exact .inr rfl) :
    FS X c UL U (.Assign [.Name x pos'] e pos) (sSetO i F) (i :: U) := by
  obtain ⟨t, p, r⟩ := h
  refine ⟨_, ps_set hN hi hx p hs hf, fun Z H0 O en σ H m Ds hE hG => r Z H0 O en σ H m _ hE (hG.bd.mono (fun d m1 k1 a o H1 s1 d1 n1 o1 q1 b1 => ?_) fun _ _ k => (ExK.out hE k))⟩
  by_cases hl : i < en.length
  · have k1 : Good ((if i < en.length then pure (.nx (en.set i (some d))) else M.no : M Ctl) m1) _ _ := k1
    rw [if_pos hl] at k1
    exact k1 _ _ H1 (hE.putO s1 d1 hU hm (by rw [← hE.len]; exact hl) n1 o1 q1 (hk.trans b1.symm))
  · have k1 : Good ((if i < en.length then pure (.nx (en.set i (some d))) else M.no : M Ctl) m1) _ _ := k1
    rw [if_neg hl] at k1
    exact k1.elim
def sDrop (F : SE → M D) : SE → M Ctl := fun en => do
  let _ ← F en
  pure (.nx en)
/-- an expression alone -/
theorem fs_expr {e : Expr} {F : SE → M D} {pos : Pos} (h : FB X c U e F) (hs : swapsWith e none pos.line X.env = pure false := by rfl) : FS X c UL U (.Expr e pos) (sDrop F) U := by
  obtain ⟨t, p, r⟩ := h
  exact ⟨_, ps_expr p hs, fun Z H0 O en σ H m Ds hE hG => r Z H0 O en σ H m _ hE (hG.bd.mono (fun d m1 k1 v H1 s1 d1 q1 => k1 O σ H1 (hE.step s1 d1)) fun _ _ k => (ExK.out hE k))⟩
theorem fs_doc {x j pos pos'} : FS X c UL U (.Expr (.Constant (.str x) j pos) pos') sNx U := ⟨_, ps_doc, fun Z H0 O en σ H m Ds hE hG => hG O σ H hE⟩
def sIf (T : SE → M Bool) (F G : SE → M Ctl) : SE → M Ctl := fun en => do
  let b ← T en
  if b = true then F en else G en
/-- an exception's wish, from a later heap -/
theorem ExK.outS {Z : List Addr} {σ : L2.St} {H0 H1 : Hp} {x : Exn} {m' : MS} (h : ExK X c Z σ H0 x m') (s : SameW c.W H0 H1) : ExK X c Z σ H1 x m' := h.step s
theorem fs_if {t : Expr} {a b : List Stmt} {T : SE → M Bool} {F G : SE → M Ctl} {pos : Pos} (ht : FT X c U t T) (ha : FSs X c UL U a F Un) (hb : FSs X c UL U b G Un) : FS X c UL U (.If t a b pos) (sIf T F G) Un := by
  obtain ⟨tt, pt, rt⟩ := ht
  obtain ⟨ta, pa, ra⟩ := ha
  obtain ⟨tb, pb, rb⟩ := hb
  refine ⟨_, ps_if pt pa pb, fun Z H0 O en σ H m Ds hE hG => rt Z H0 O en σ H m _ hE (hG.bd.mono (fun bo m1 k1 H1 s1 d1 => ?_) fun _ _ k => (ExK.out hE k))⟩
  cases bo with
  | true => exact ra Z H0 O en σ H1 m1 Ds (hE.step s1 d1) k1
  | false => exact rb Z H0 O en σ H1 m1 Ds (hE.step s1 d1) k1

/-! ### lists of one's own -/
def lstAt (i : Nat) (en : SE) : Option (List D) := match en[i]? with
  | some (some (.list ds)) => some ds
  | _ => none
theorem lstAt_some {i : Nat} {en : SE} {ds : List D} (h : lstAt i en = some ds) : en[i]? = some (some (.list ds)) := by
  unfold lstAt at h
  split at h
  · rename_i q
    cases h
    exact q
  · cases h
/-- an owned list -/
theorem EnvOk.ownL {K : PySem.W.Frag} {W : Option Wd} {ms : List Nat} {dk : Nat → Kd} {Z : List Addr} {H0 H : Hp} {U : List Nat} {O : List (Nat × Addr)} {e : SE} {σ : St} {m : MS} (h : EnvOk K W ms dk Z H0 U O e σ H m) {i : Nat} (hi : i ∈ U) {ds : List D} (he : lstAt i e = some ds) :
    ∃ a vs, (i, a) ∈ O ∧ σ[i]? = some (some (.ref a)) ∧ H a = some (.lst vs) ∧ DqAll K (hide (ZO Z O) H) vs ds ∧ dk i = .dat := by
  obtain ⟨a, o, h1, h2, h3, h4, h5⟩ := h.owned hi (lstAt_some he)
  cases h4 with
  | lst _ vs hv => exact ⟨a, vs, h1, h2, h3, hv, h5⟩
/-- a write to an owned list, a list of the kind -/
theorem EnvOk.writeL {K : PySem.W.Frag} {W : Option Wd} {ms : List Nat} {dk : Nat → Kd} {Z : List Addr} {H0 H : Hp} {U : List Nat} {O : List (Nat × Addr)} {e : SE} {σ : St} {m : MS} (h : EnvOk K W ms dk Z H0 U O e σ H m) {i : Nat} {a : Addr} (hp : (i, a) ∈ O) (hk : dk i = .dat) {ds : List D} {vs : List V} (r : DqAll K (hide (ZO Z O) H) vs ds) :
    EnvOk K W ms dk Z H0 U O (e.set i (some (.list ds))) σ (upd H a (.lst vs)) m := h.write hp (.lst ds vs r) hk
/-- xs.m(e): how the method turns the list, and what it gives -/
def sMeth (i : Nat) (g : List D → D → Option (List D)) (F : SE → M D) : SE → M Ctl := fun en => do
  let ds ← lft (lstAt i en)
  let d ← F en
  let r ← lft (g ds d)
  pure (.nx (en.set i (some (.list r))))
theorem own_line {n : Nat} (h : n < lineN) : n < sizeLine := Nat.lt_of_lt_of_le h lineN_le
def appD (xs : List D) (d : D) : Option (List D) := if xs.length < lineN then some (xs ++ [d]) else none
theorem fs_append (i : Nat) {x : Str} {e : Expr} {F : SE → M D} {px apos cpos pos : Pos} (h : FE X c U e F) (hU : i ∈ U := by decide) (hN : X.N[i]? = some x := by rfl) (hv : Vis X.env.scope x := by first | exact Or.inl rfl | exact Or.inr (Or.inl rfl) | exact Or.inr (Or.inr rfl)) (hd : (x == ("__debug__" : Str)) = false := by decide) (hcd : (x == ("__classdict__" : Str)) = false := by decide)
    (hbase : attributeBase (.Name x px) "append" X.env (eval (.Name x px) X.env) = eval (.Name x px) X.env := by rfl)
    (hfew : ((backTo cpos (starEach [e] X.env)).all (fun x => !x.1) && (backToKw cpos (keywordEach [] X.env)).all (fun x => x.1.isSome)
      && decide (([e] : List Expr).length + ([] : List Keyword).length + (if ([] : List Keyword).isEmpty then 0 else 1) < 30)) = true := by rfl)
    (hline : (apos.endLine == cpos.line) = true := by rfl) (hs : starEach [e] X.env = (false, eval e X.env) :: starEach [] X.env := by rfl) (hplain : (backTo cpos (starEach [] X.env)).any (·.1) = false := by rfl)
    (hsw : swapsWith (.Call (.Attribute (.Name x px) "append" apos) [e] [] cpos) none pos.line X.env = pure false := by rfl) :
    FS X c UL U (.Expr (.Call (.Attribute (.Name x px) "append" apos) [e] [] cpos) pos) (sMeth i appD F) U := by
  obtain ⟨t, p, r⟩ := h
  refine ⟨_, ps_expr (pe_bm PySem.F.plainAttrs_list PySem.F.slot_list_append PySem.F.type_list_append mt_append (pe_var hN hv hd hcd) (pa_cons p pa_nil hs) hbase hfew hline hs hplain) hsw, fun Z H0 O en σ H m Ds hE hG => ?_⟩
  obtain ⟨ds, he, kG⟩ := hG.bd.lft
  obtain ⟨a, vs, h1, h2, h3, h4, h5⟩ := hE.ownL hU he
  refine ⟨_, h2, .inl ⟨rfl, vs, .inl (.inl h3)⟩, r Z H0 O en σ H m _ hE (kG.bd.mono (fun d m1 k1 v H1 s1 d1 q1 => ?_) fun _ _ k => (ExK.out hE k))⟩
  obtain ⟨rs, hr, k2⟩ := k1.bd.lft
  have hz : ds.length < lineN := by
    unfold appD at hr
    by_cases hz : ds.length < lineN
    · exact hz
    · rw [if_neg hz] at hr
      cases hr
  unfold appD at hr
  rw [if_pos hz] at hr
  cases hr
  have E1 := hE.step s1 d1
  have h3' : H1 a = some (.lst vs) := s1 _ _ (hE.onw h1) h3
  refine ⟨a, vs, v, rfl, rfl, h3', by rw [DqAll.length h4]; exact own_line hz, k2 O σ _ (E1.writeL h1 h5 (DqAll.append (DqAll.mono (s1.hide hE.wzo) h4) (DqAll.one q1)))⟩
def extD (xs : List D) (d : D) : Option (List D) := match d with
  | .list ys => if xs.length + ys.length ≤ lineN then some (xs ++ ys) else none
  | _ => none
theorem fs_extend (i : Nat) {x : Str} {e : Expr} {F : SE → M D} {px apos cpos pos : Pos} (h : FO X c U .dat e F) (hU : i ∈ U := by decide) (hN : X.N[i]? = some x := by rfl) (hv : Vis X.env.scope x := by first | exact Or.inl rfl | exact Or.inr (Or.inl rfl) | exact Or.inr (Or.inr rfl)) (hd : (x == ("__debug__" : Str)) = false := by decide) (hcd : (x == ("__classdict__" : Str)) = false := by decide)
    (hbase : attributeBase (.Name x px) "extend" X.env (eval (.Name x px) X.env) = eval (.Name x px) X.env := by rfl)
    (hfew : ((backTo cpos (starEach [e] X.env)).all (fun x => !x.1) && (backToKw cpos (keywordEach [] X.env)).all (fun x => x.1.isSome)
      && decide (([e] : List Expr).length + ([] : List Keyword).length + (if ([] : List Keyword).isEmpty then 0 else 1) < 30)) = true := by rfl)
    (hline : (apos.endLine == cpos.line) = true := by rfl) (hs : starEach [e] X.env = (false, eval e X.env) :: starEach [] X.env := by rfl) (hplain : (backTo cpos (starEach [] X.env)).any (·.1) = false := by rfl)
    (hsw : swapsWith (.Call (.Attribute (.Name x px) "extend" apos) [e] [] cpos) none pos.line X.env = pure false := by rfl) :
    FS X c UL U (.Expr (.Call (.Attribute (.Name x px) "extend" apos) [e] [] cpos) pos) (sMeth i extD F) U := by
  obtain ⟨t, p, r⟩ := h
  refine ⟨_, ps_expr (pe_bm PySem.F.plainAttrs_list PySem.F.slot_list_extend PySem.F.type_list_extend mt_extend (pe_var hN hv hd hcd) (pa_cons p pa_nil hs) hbase hfew hline hs hplain) hsw, fun Z H0 O en σ H m Ds hE hG => ?_⟩
  obtain ⟨ds, he, kG⟩ := hG.bd.lft
  obtain ⟨a, vs, h1, h2, h3, h4, h5⟩ := hE.ownL hU he
  refine ⟨_, h2, .inl ⟨rfl, vs, .inl (.inl h3)⟩, r Z H0 O en σ H m _ hE (kG.bd.mono (fun d m1 k1 b o H1 s1 d1 n1 o1 q1 b1 => ?_) fun _ _ k => (ExK.out hE k))⟩
  obtain ⟨rs, hr, k2⟩ := k1.bd.lft
  cases q1 with
  | dic _ _ h => cases h <;> cases b1
  | lst ys ws q1 =>
    have hr : (if ds.length + ys.length ≤ lineN then some (ds ++ ys) else none) = some rs := hr
    by_cases hz : ds.length + ys.length ≤ lineN
    · rw [if_pos hz] at hr
      cases hr
      have E1 := hE.step s1 d1
      have h3' : H1 a = some (.lst vs) := s1 _ _ (hE.onw h1) h3
      exact ⟨a, b, vs, ws, rfl, rfl, h3', o1, by rw [DqAll.length h4, DqAll.length q1]; exact Nat.le_trans hz lineN_le, k2 O σ _ (E1.writeL h1 h5 (DqAll.append (DqAll.mono (s1.hide hE.wzo) h4) (DqAll.mono (hide_sub fun b hb => List.mem_cons_of_mem _ hb) q1)))⟩
    · rw [if_neg hz] at hr
      cases hr
/-- xs[i] = e -/
def setIx (xs : List D) (k d : D) : Option (List D) := match k with
  | .int k => (ixN xs.length k).map fun j => xs.set j d
  | _ => none
def sSetIx (i : Nat) (Fk F : SE → M D) : SE → M Ctl := fun en => do
  let d ← F en
  let ds ← lft (lstAt i en)
  let k ← Fk en
  let r ← lft (setIx ds k d)
  pure (.nx (en.set i (some (.list r))))
theorem setIx_some {xs ys : List D} {k d : D} (h : setIx xs k d = some ys) : ∃ (i : Int) (j : Nat), k = .int i ∧ ixN xs.length i = some j ∧ ys = xs.set j d := by
  unfold setIx at h
  split at h
  · obtain ⟨j, h1, h2⟩ := Option.map_eq_some_iff.mp h
    exact ⟨_, j, rfl, h1, h2.symm⟩
  · cases h
theorem fs_setIx (i : Nat) {x : Str} {ei e : Expr} {Fk F : SE → M D} {px spos pos : Pos} (hk : FE X c U ei Fk) (h : FE X c U e F) (hU : i ∈ U := by decide) (hN : X.N[i]? = some x := by rfl) (hv : Vis X.env.scope x := by first | exact Or.inl rfl | exact Or.inr (Or.inl rfl) | exact Or.inr (Or.inr rfl)) (hd : (x == ("__debug__" : Str)) = false := by decide) (hcd : (x == ("__classdict__" : Str)) = false := by decide)
    (ha : ∀ v, assign (.Subscript (.Name x px) ei spos) X.env v = (do
      let ov ← holding [v] (eval (.Name x px) X.env)
      let iv ← holding [v, ov] (eval ei X.env)
      standAt spos
      holding [v, ov, iv] (setItem ov iv v)
      release [v, ov, iv] []) := by intro _; rfl)
    (hs : swapsWithSole [.Subscript (.Name x px) ei spos] e pos.line X.env = pure false := by rfl) (hw : swappedStores [.Subscript (.Name x px) ei spos] e X.env = pure none := by rfl)
    (h1 : (assignEach [.Subscript (.Name x px) ei spos] X.env).map (·.2) = [assign (.Subscript (.Name x px) ei spos) X.env] := by rfl) :
    FS X c UL U (.Assign [.Subscript (.Name x px) ei spos] e pos) (sSetIx i Fk F) U := by
  obtain ⟨tk, pk, rk⟩ := hk
  obtain ⟨t, p, r⟩ := h
  refine ⟨_, ps_asg p (pg_sub (pe_var hN hv hd hcd) pk set_list ha) hs hw h1, fun Z H0 O en σ H m Ds hE hG => ?_⟩
  refine r Z H0 O en σ H m _ hE (hG.bd.mono (fun d m1 k1 v H1 s1 d1 q1 => ?_) fun _ _ k => (ExK.out hE k))
  have E1 := hE.step s1 d1
  obtain ⟨ds, he, k1⟩ := k1.bd.lft
  obtain ⟨a, vs, h1, h2, h3, h4, h5⟩ := E1.ownL hU he
  refine ⟨_, h2, rk Z H0 O en σ H1 m1 _ E1 (k1.bd.mono (fun kd m2 k2 w H2 s2 d2 q2 => ?_) fun _ _ k => (ExK.out E1 k))⟩
  obtain ⟨rs, hr, k3⟩ := k2.bd.lft
  obtain ⟨n, j, rfl, hj, rfl⟩ := setIx_some hr
  cases (show Dq X.K _ w (.int n) from q2)
  have E2 := E1.step s2 d2
  refine ⟨a, vs, n, j, rfl, rfl, s2 _ _ (E1.onw h1) h3, by rw [DqAll.length h4]; exact hj, ?_⟩
  exact k3 O σ _ (E2.writeL h1 h5 (DqAll.set (Dq.mono (s2.hide hE.wzo) q1) j (DqAll.mono (s2.hide hE.wzo) h4)))
/-! ### name op= e -/
def IpV (X : Cx) (op : Operator) (g : D → D → Option D) : Prop := OpV X (inplaceOp op) g
def sAug (i : Nat) (g : D → D → Option D) (F : SE → M D) : SE → M Ctl := fun en => do
  let a ← eVar i en
  let b ← F en
  let d ← lft (g a b)
  pure (.nx (en.set i (some d)))
theorem iv_add : IpV X .Add (fun a b => match a, b with | .int i, .int j => some (.int (i + j)) | _, _ => none) := opv_ints0 iop_add fun a b d h => by
  cases a <;> first | cases h | skip
  cases b <;> first | cases h | skip
  exact ⟨_, _, rfl, rfl, fun _ => .int _⟩
theorem iv_sub : IpV X .Sub subD := opv_ints0 iop_sub fun a b d h => by
  cases a <;> first | cases h | skip
  cases b <;> first | cases h | skip
  exact ⟨_, _, rfl, rfl, fun _ => .int _⟩
theorem fs_aug (i : Nat) {x : Str} {e : Expr} {F : SE → M D} {op : Operator} {g : D → D → Option D} {px pos : Pos} (ho : IpV X op g) (h : FE X c U e F) (hN : X.N.Nodup) (hk : c.dk i = .dat := by rfl) (hU : i ∉ U := by decide) (hm : i ∉ c.ms := by (try dsimp only); decide) (hi : X.N[i]? = some x := by rfl)
    (hx : Loc X.env.scope x := by first | exact Or.inl rfl | exact Or.inr rfl) (hf : X.fn x = true ∨ X.env.scope.names.lookup x = some .local := by first | exact .inl rfl | exact .inr rfl) :
    FS X c UL U (.AugAssign (.Name x px) op e pos) (sAug i g F) U := by
  obtain ⟨t, p, r⟩ := h
  obtain ⟨ro, po, qo⟩ := ho
  refine ⟨_, ps_aug hN hi hx p po hf, fun Z H0 O en σ H m Ds hE hG => ?_⟩
  obtain ⟨a, he, k1⟩ := eVar_good hG.bd
  obtain ⟨v, h1, h2⟩ := hE.rep i a he hU
  rw [hk] at h2
  refine ⟨v, h1, r Z H0 O en σ H m _ hE (k1.bd.mono (fun b m1 k2 w H1 s1 d1 q1 => ?_) fun _ _ k => (ExK.out hE k))⟩
  obtain ⟨d, hg, k3⟩ := k2.bd.lft
  have E1 := hE.step s1 d1
  refine qo (ZO Z O) v w H1 a b d _ E1.zt (.inl (Rp.of (Dq.mono (s1.hide hE.wzo) h2))) (.inl (Rp.of q1)) hg fun u H2 s2 q2 => ?_
  exact k3 O _ H2 ((E1.grow s2).put' hU hm (by rw [hk]; exact q2))
end
end VL
/-! the value layer: dicts, several names at once -/
namespace VL
open PySem
open PySem.Spec
open L2

/-! ### dicts by data: the keys of a type κ -/
def asK : D → Option Key
  | .int i => some (.inl i)
  | .str x => some (.inr x)
  | _ => none
def asKs : List D → Option (List Key)
  | [] => some []
  | d :: ds => match asK d, asKs ds with
    | some k, some ks => some (k :: ks)
    | _, _ => none
def asT : D → Option (List Key)
  | .tuple xs => asKs xs
  | _ => none
theorem asK_keyD (k : Key) : asK (keyD k) = some k := by
  cases k <;> rfl
theorem asK_some {d : D} {k : Key} (h : asK d = some k) : d = keyD k := by
  cases d <;> first | cases h | skip
  · rfl
  · rfl
theorem asKs_map : ∀ ks : List Key, asKs (ks.map keyD) = some ks
  | [] => rfl
  | k :: ks => by
    rw [List.map_cons]
    unfold asKs
    rw [asK_keyD, asKs_map ks]
theorem asKs_some : ∀ {ds : List D} {ks : List Key}, asKs ds = some ks → ds = ks.map keyD
  | [], ks, h => by
    cases h
    rfl
  | d :: ds, ks, h => by
    unfold asKs at h
    cases q : asK d with
    | none => rw [q] at h; cases h
    | some k =>
      cases r : asKs ds with
      | none => rw [q, r] at h; cases h
      | some ks' =>
        rw [q, r] at h
        cases h
        rw [asK_some q, asKs_some r]
        rfl
theorem asT_keyT (k : List Key) : asT (keyT k) = some k := asKs_map k
theorem asT_some {d : D} {k : List Key} (h : asT d = some k) : d = keyT k := by
  cases d <;> first | cases h | skip
  exact congrArg PyData.tuple (asKs_some h)
section gen
variable {κ : Type} [DecidableEq κ] {kd : κ → D} {as : D → Option κ}
/-- the value of a key -/
def dg (as : D → Option κ) (kvs : List (D × D)) (k : κ) : Option D := (kvs.find? fun kv => decide (as kv.1 = some k)).map (·.2)
def dp (kd : κ → D) (as : D → Option κ) (kvs : List (D × D)) (k : κ) (d : D) : List (D × D) :=
  if (kvs.any fun kv => decide (as kv.1 = some k)) = true then kvs.map (fun kv => if as kv.1 = some k then (kv.1, d) else kv) else kvs ++ [(kd k, d)]
theorem valG {K : PySem.W.Frag} {H : Hp} (has : ∀ k, as (kd k) = some k) (k : κ) : ∀ {ks : List κ} {vs : List V} {ds : List D}, DqAll K H vs ds → ks.length = vs.length →
    (dg as ((ks.map kd).zip ds) k = none ∧ valV (ks.zip vs) k = none) ∨ ∃ d v, dg as ((ks.map kd).zip ds) k = some d ∧ valV (ks.zip vs) k = some v ∧ Dq K H v d
  | [], vs, ds, _, _ => .inl ⟨rfl, rfl⟩
  | k0 :: ks, vs, ds, h, hl => by
    cases h with
    | nil => cases hl
    | @cons v vs d ds h1 h2 =>
      have ih := valG has k h2 (by simpa using hl)
      have e1 : dg as (((k0 :: ks).map kd).zip (d :: ds)) k = if k0 = k then some d else dg as ((ks.map kd).zip ds) k := by
        unfold dg
        rw [List.map_cons, List.zip_cons_cons, List.find?_cons, has]
        by_cases q : k0 = k
        · rw [if_pos q, decide_eq_true (by rw [q])]
          rfl
        · rw [if_neg q, decide_eq_false (by intro t; exact q (Option.some.inj t))]
      have e2 : valV ((k0 :: ks).zip (v :: vs)) k = if k0 = k then some v else valV (ks.zip vs) k := by
        rw [List.zip_cons_cons]
        by_cases q : k0 = k
        · rw [if_pos q]
          exact valV_pos q
        · rw [if_neg q]
          exact valV_neg q
      rw [e1, e2]
      by_cases q : k0 = k
      · rw [if_pos q, if_pos q]
        exact .inr ⟨d, v, rfl, rfl, h1⟩
      · rw [if_neg q, if_neg q]
        exact ih
theorem anyG (has : ∀ k, as (kd k) = some k) (k : κ) : ∀ {ks : List κ} {vs : List V} {ds : List D}, ks.length = vs.length → vs.length = ds.length →
    (((ks.map kd).zip ds).any fun kv => decide (as kv.1 = some k)) = ((ks.zip vs).any fun kv => decide (kv.1 = k))
  | [], _, _, _, _ => by simp
  | k0 :: ks, [], _, h, _ => by cases h
  | k0 :: ks, _ :: _, [], _, h => by cases h
  | k0 :: ks, v :: vs, d :: ds, h, h' => by
    have ih := anyG has k (ks := ks) (vs := vs) (ds := ds) (by simpa using h) (by simpa using h')
    rw [List.map_cons, List.zip_cons_cons, List.zip_cons_cons, List.any_cons, List.any_cons, ih, has]
    congr 1
    by_cases q : k0 = k
    · rw [decide_eq_true q, decide_eq_true (by rw [q])]
    · rw [decide_eq_false q, decide_eq_false (by intro t; exact q (Option.some.inj t))]
theorem mapG {K : PySem.W.Frag} {H : Hp} (has : ∀ k, as (kd k) = some k) (k : κ) {v : V} {d : D} (hd : Dq K H v d) : ∀ {ks : List κ} {vs : List V} {ds : List D}, DqAll K H vs ds → ks.length = vs.length →
    ∃ vs' ds', DqAll K H vs' ds' ∧ ks.length = vs'.length ∧ ((ks.map kd).zip ds).map (fun kv => if as kv.1 = some k then (kv.1, d) else kv) = (ks.map kd).zip ds' ∧ (ks.zip vs).map (fun kv => if kv.1 = k then (kv.1, v) else kv) = ks.zip vs'
  | [], _, _, _, _ => ⟨[], [], .nil, rfl, by simp, by simp⟩
  | k0 :: ks, vs, ds, h, hl => by
    cases h with
    | nil => cases hl
    | @cons v0 vs d0 ds h1 h2 =>
      obtain ⟨vs', ds', q1, q2, q3, q4⟩ := mapG has k hd h2 (by simpa using hl)
      by_cases q : k0 = k
      · refine ⟨v :: vs', d :: ds', .cons hd q1, by simpa using q2, ?_, ?_⟩
        · rw [List.map_cons, List.zip_cons_cons, List.map_cons, q3, List.zip_cons_cons]
          simp [has, q]
        · rw [List.zip_cons_cons, List.map_cons, q4, List.zip_cons_cons]
          simp [q]
      · refine ⟨v0 :: vs', d0 :: ds', .cons h1 q1, by simpa using q2, ?_, ?_⟩
        · rw [List.map_cons, List.zip_cons_cons, List.map_cons, q3, List.zip_cons_cons]
          simp [has, q]
        · rw [List.zip_cons_cons, List.map_cons, q4, List.zip_cons_cons]
          simp [q]
theorem zip_snoc {α β : Type} : ∀ {xs : List α} {ys : List β} {a : α} {b : β}, xs.length = ys.length → (xs ++ [a]).zip (ys ++ [b]) = xs.zip ys ++ [(a, b)]
  | [], [], _, _, _ => rfl
  | x :: xs, y :: ys, a, b, h => by
    have := zip_snoc (xs := xs) (ys := ys) (a := a) (b := b) (by simpa using h)
    simp [this]
  | [], _ :: _, _, _, h => by cases h
  | _ :: _, [], _, _, h => by cases h
/-- a store, both ways -/
theorem putG {K : PySem.W.Frag} {H : Hp} (has : ∀ k, as (kd k) = some k) {k : κ} {v : V} {d : D} (hd : Dq K H v d) {ks : List κ} {vs : List V} {ds : List D} (h : DqAll K H vs ds) (hl : ks.length = vs.length) :
    ∃ (ks' : List κ) (vs' : List V) (ds' : List D), DqAll K H vs' ds' ∧ ks'.length = vs'.length ∧ dp kd as ((ks.map kd).zip ds) k d = (ks'.map kd).zip ds' ∧ putK (ks.zip vs) k v = ks'.zip vs' := by
  unfold dp putK
  rw [anyG has k hl (DqAll.length h)]
  by_cases q : ((ks.zip vs).any fun kv => decide (kv.1 = k)) = true
  · rw [if_pos q, if_pos q]
    obtain ⟨vs', ds', q1, q2, q3, q4⟩ := mapG has k hd h hl
    exact ⟨ks, vs', ds', q1, q2, q3, q4⟩
  · rw [if_neg q, if_neg q]
    refine ⟨ks ++ [k], vs ++ [v], ds ++ [d], DqAll.append h (DqAll.one hd), by simp [hl], ?_, by rw [zip_snoc hl]⟩
    have e : (ks ++ [k]).map kd = ks.map kd ++ [kd k] := by simp
    rw [e, zip_snoc (by rw [List.length_map, hl, DqAll.length h])]
end gen
def dgK := dg asK
def dgT := dg asT
def dpK := dp keyD asK
def dpT := dp keyT asT
section
variable {X : Cx} {c : Ct} {U Un UL : List Nat}
def dicAt (i : Nat) (en : SE) : Option (List (D × D)) := match en[i]? with
  | some (some (.dict ds)) => some ds
  | _ => none
theorem dicAt_some {i : Nat} {en : SE} {ds : List (D × D)} (h : dicAt i en = some ds) : en[i]? = some (some (.dict ds)) := by
  unfold dicAt at h
  split at h
  · rename_i q
    cases h
    exact q
  · cases h
/-- the dict in a slot, owned or not -/
theorem EnvOk.dicR {K : PySem.W.Frag} {W : Option Wd} {ms : List Nat} {dk : Nat → Kd} {Z : List Addr} {H0 H : Hp} {U : List Nat} {O : List (Nat × Addr)} {e : SE} {σ : St} {m : MS} (h : EnvOk K W ms dk Z H0 U O e σ H m) {i : Nat} {kvs : List (D × D)} (he : dicAt i e = some kvs) (hk : dk i = .dic) :
    ∃ (a : Addr) (ks : List Key) (vs : List V) (ds : List D), σ[i]? = some (some (.ref a)) ∧ H a = some (.dK (ks.zip vs)) ∧ kvs = (ks.map keyD).zip ds ∧ DqAll K (hide (ZO Z O) H) vs ds ∧ ks.length = vs.length ∧ (∀ w, W = some w → a ≠ w.am ∧ a ≠ w.gA) ∧ (i ∈ U → (i, a) ∈ O) := by
  have he := dicAt_some he
  by_cases hi : i ∈ U
  · obtain ⟨a, o, h1, h2, h3, h4, h5⟩ := h.owned hi he
    cases h4 with
    | dic _ _ h4 =>
      cases h4 with
      | k ks vs ds hv hl => exact ⟨a, ks, vs, ds, h2, h3, rfl, hv, hl, h.onw h1, fun _ => h1⟩
      | t ks vs ds hv hl => rw [hk] at h5; cases h5
  · obtain ⟨v, h1, h2⟩ := h.rep i _ he hi
    rw [hk] at h2
    obtain ⟨a, kvs', l, rfl, e2, h3, h4⟩ := h2
    cases e2
    have h3' := hide_some h3
    generalize eo : HO.dK l = o at h4
    cases h4 with
    | t ks vs ds hv hl => cases eo
    | k ks vs ds hv hl =>
      cases eo
      refine ⟨a, ks, vs, ds, h1, h3'.2, rfl, hv, hl, fun w q => ?_, fun q => absurd q hi⟩
      obtain ⟨w1, w2, w3⟩ := h.wzo w q
      exact ⟨fun t => h3'.1 (t ▸ w1), fun t => h3'.1 (t ▸ w3)⟩
theorem EnvOk.ditR {K : PySem.W.Frag} {W : Option Wd} {ms : List Nat} {dk : Nat → Kd} {Z : List Addr} {H0 H : Hp} {U : List Nat} {O : List (Nat × Addr)} {e : SE} {σ : St} {m : MS} (h : EnvOk K W ms dk Z H0 U O e σ H m) {i : Nat} {kvs : List (D × D)} (he : dicAt i e = some kvs) (hk : dk i = .dit) :
    ∃ (a : Addr) (ks : List (List Key)) (vs : List V) (ds : List D), σ[i]? = some (some (.ref a)) ∧ H a = some (.dT (ks.zip vs)) ∧ kvs = (ks.map keyT).zip ds ∧ DqAll K (hide (ZO Z O) H) vs ds ∧ ks.length = vs.length ∧ (∀ w, W = some w → a ≠ w.am ∧ a ≠ w.gA) ∧ (i ∈ U → (i, a) ∈ O) := by
  have he := dicAt_some he
  by_cases hi : i ∈ U
  · obtain ⟨a, o, h1, h2, h3, h4, h5⟩ := h.owned hi he
    cases h4 with
    | dic _ _ h4 =>
      cases h4 with
      | t ks vs ds hv hl => exact ⟨a, ks, vs, ds, h2, h3, rfl, hv, hl, h.onw h1, fun _ => h1⟩
      | k ks vs ds hv hl => rw [hk] at h5; cases h5
  · obtain ⟨v, h1, h2⟩ := h.rep i _ he hi
    rw [hk] at h2
    obtain ⟨a, kvs', l, rfl, e2, h3, h4⟩ := h2
    cases e2
    have h3' := hide_some h3
    generalize eo : HO.dT l = o at h4
    cases h4 with
    | k ks vs ds hv hl => cases eo
    | t ks vs ds hv hl =>
      cases eo
      refine ⟨a, ks, vs, ds, h1, h3'.2, rfl, hv, hl, fun w q => ?_, fun q => absurd q hi⟩
      obtain ⟨w1, w2, w3⟩ := h.wzo w q
      exact ⟨fun t => h3'.1 (t ▸ w1), fun t => h3'.1 (t ▸ w3)⟩
theorem Dq.key {K : PySem.W.Frag} {H : Hp} {v : V} {k : Key} (h : Dq K H v (keyD k)) : v = kV k := by
  cases k with
  | inl i =>
    cases (show Dq K H v (.int i) from h)
    rfl
  | inr x =>
    cases (show Dq K H v (.str x) from h)
    rfl
theorem DzAll.keys {K : PySem.W.Frag} {H : Hp} : ∀ {ks : List Key} {vs : List V}, DzAll K H vs (ks.map keyD) → vs = ks.map kV
  | [], _, h => by cases h; rfl
  | k :: ks, _, h => by
    cases h with
    | cons h1 h2 =>
      rw [Dq.key (Dz.dq h1), DzAll.keys h2]
      rfl
theorem Dz.key {K : PySem.W.Frag} {H : Hp} {v : V} {k : List Key} (h : Dz K H v (keyT k)) : ∃ b, v = .ref b ∧ H b = some (.tup (k.map kV)) := by
  have h : Dz K H v (.tuple (k.map keyD)) := h
  cases h with
  | tup h1 h2 => exact ⟨_, rfl, by rw [h1, DzAll.keys h2]⟩
/-- d[k], the dict's name -/
def eDgK (i : Nat) (F : SE → M D) : SE → M D := fun en => do
  let kvs ← lft (dicAt i en)
  let k ← F en
  lft ((asK k).bind (dgK kvs))
def eDgT (i : Nat) (F : SE → M D) : SE → M D := fun en => do
  let kvs ← lft (dicAt i en)
  let k ← F en
  lft ((asT k).bind (dgT kvs))
theorem fe_dgK (i : Nat) {x : Str} {e : Expr} {F : SE → M D} {px pos : Pos} (hu : X.A.units + 1 < cLine) (h : FE X c U e F) (hk : c.dk i = .dic := by rfl) (hN : X.N[i]? = some x := by rfl) (hv : Vis X.env.scope x := by first | exact Or.inl rfl | exact Or.inr (Or.inl rfl) | exact Or.inr (Or.inr rfl)) (hd : (x == ("__debug__" : Str)) = false := by decide) (hcd : (x == ("__classdict__" : Str)) = false := by decide) (hs : NoSl e := by intro _ _; rfl) :
    FE X c U (.Subscript (.Name x px) e pos) (eDgK i F) := by
  obtain ⟨t, p, r⟩ := h
  refine ⟨_, pe_dget hu (pe_var hN hv hd hcd) p hs, fun Z H0 O en σ H m Q hE hG => ?_⟩
  obtain ⟨kvs, he, kG⟩ := hG.bd.lft
  obtain ⟨a, ks, vs, ds, h1, h2, rfl, h4, h5, h6, h7⟩ := hE.dicR he hk
  refine ⟨_, h1, r Z H0 O en σ H m _ hE (kG.bd.mono (fun kd m1 k1 y H1 s1 d1 q1 => ?_) fun _ _ k => k)⟩
  obtain ⟨d, hb, k2⟩ := k1.lft
  obtain ⟨k, hk1, hk2⟩ := Option.bind_eq_some_iff.mp hb
  obtain rfl := asK_some hk1
  obtain rfl := Dq.key (show Dq X.K _ y (keyD k) from q1)
  have h2' : H1 a = some (.dK (ks.zip vs)) := s1 _ _ h6 h2
  rcases valG asK_keyD k h4 h5 with ⟨z, _⟩ | ⟨d', v, z1, z2, z3⟩
  · have hk2 : dg asK ((ks.map keyD).zip ds) k = some d := hk2
    rw [z] at hk2
    cases hk2
  · have hk2 : dg asK ((ks.map keyD).zip ds) k = some d := hk2
    rw [z1] at hk2
    cases hk2
    exact ⟨a, v, rfl, by rw [← z2]; exact DGet.k h2', k2 v H1 s1 d1 (Dq.mono (s1.hide hE.wzo) z3)⟩
theorem fe_dgT (i : Nat) {x : Str} {e : Expr} {F : SE → M D} {px pos : Pos} (hu : X.A.units + 1 < cLine) (h : FR X c U .pl e F) (hk : c.dk i = .dit := by rfl) (hN : X.N[i]? = some x := by rfl) (hv : Vis X.env.scope x := by first | exact Or.inl rfl | exact Or.inr (Or.inl rfl) | exact Or.inr (Or.inr rfl)) (hd : (x == ("__debug__" : Str)) = false := by decide) (hcd : (x == ("__classdict__" : Str)) = false := by decide) (hs : NoSl e := by intro _ _; rfl) :
    FE X c U (.Subscript (.Name x px) e pos) (eDgT i F) := by
  obtain ⟨t, p, r⟩ := h
  refine ⟨_, pe_dget hu (pe_var hN hv hd hcd) p hs, fun Z H0 O en σ H m Q hE hG => ?_⟩
  obtain ⟨kvs, he, kG⟩ := hG.bd.lft
  obtain ⟨a, ks, vs, ds, h1, h2, rfl, h4, h5, h6, h7⟩ := hE.ditR he hk
  refine ⟨_, h1, r Z H0 O en σ H m _ hE (kG.bd.mono (fun kd m1 k1 y H1 s1 d1 q1 => ?_) fun _ _ k => k)⟩
  obtain ⟨d, hb, k2⟩ := k1.lft
  obtain ⟨k, hk1, hk2⟩ := Option.bind_eq_some_iff.mp hb
  obtain rfl := asT_some hk1
  obtain ⟨b, rfl, hb'⟩ := Dz.key (show Dz X.K _ y (keyT k) from q1)
  have h2' : H1 a = some (.dT (ks.zip vs)) := s1 _ _ h6 h2
  rcases valG asT_keyT k h4 h5 with ⟨z, _⟩ | ⟨d', v, z1, z2, z3⟩
  · have hk2 : dg asT ((ks.map keyT).zip ds) k = some d := hk2
    rw [z] at hk2
    cases hk2
  · have hk2 : dg asT ((ks.map keyT).zip ds) k = some d := hk2
    rw [z1] at hk2
    cases hk2
    exact ⟨a, v, rfl, by rw [← z2]; exact DGet.t h2' (hide_some hb').2, k2 v H1 s1 d1 (Dq.mono (s1.hide hE.wzo) z3)⟩
/-- k in d, k not in d -/
def eDin (neg : Bool) (has : List (D × D) → D → Option Bool) (i : Nat) (F : SE → M D) : SE → M Bool := fun en => do
  let k ← F en
  let kvs ← lft (dicAt i en)
  let b ← lft (has kvs k)
  pure (if neg = true then !b else b)
def hasK (kvs : List (D × D)) (d : D) : Option Bool := (asK d).map fun k => (dgK kvs k).isSome
def hasT (kvs : List (D × D)) (d : D) : Option Bool := (asT d).map fun k => (dgT kvs k).isSome
theorem eDin_good {neg : Bool} {has : List (D × D) → D → Option Bool} {i : Nat} {F : SE → M D} {en : SE} {m : MS} {P : Bool → MS → Prop} {R : Exn → MS → Prop} (h : Good (eDin neg has i F en m) P R) :
    Good (F en m) (fun k m' => ∃ kvs b, dicAt i en = some kvs ∧ has kvs k = some b ∧ P (if neg = true then !b else b) m') R := by
  refine h.bd.mono (fun k m1 k1 => ?_) fun _ _ k => k
  obtain ⟨kvs, h1, k2⟩ := k1.bd.lft
  obtain ⟨b, h2, k3⟩ := k2.bd.lft
  exact ⟨kvs, b, h1, h2, k3⟩
theorem ft_dinK (i : Nat) {x : Str} {e : Expr} {F : SE → M D} {px pos : Pos} (hu : X.A.units + 1 < cLine) (h : FE X c U e F) (hk : c.dk i = .dic := by rfl) (hN : X.N[i]? = some x := by rfl) (hv : Vis X.env.scope x := by first | exact Or.inl rfl | exact Or.inr (Or.inl rfl) | exact Or.inr (Or.inr rfl)) (hd : (x == ("__debug__" : Str)) = false := by decide) (hcd : (x == ("__classdict__" : Str)) = false := by decide) :
    FT X c U (.Compare e [.In] [.Name x px] pos) (eDin false hasK i F) := by
  obtain ⟨t, p, r⟩ := h
  refine ⟨_, pt_cmp (pc_din hu p (pe_var hN hv hd hcd)) rfl, fun Z H0 O en σ H m Q hE hG => ?_⟩
  refine r Z H0 O en σ H m _ hE ((eDin_good hG).mono (fun kd m1 ⟨kvs, b, he, hb, k1⟩ y H1 s1 d1 q1 => ?_) fun _ _ k => k)
  have E1 := hE.step s1 d1
  obtain ⟨a, ks, vs, ds, h1, h2, rfl, h4, h5, h6, h7⟩ := E1.dicR he hk
  obtain ⟨k, hk1, rfl⟩ := Option.map_eq_some_iff.mp hb
  obtain rfl := asK_some hk1
  obtain rfl := Dq.key (show Dq X.K _ y (keyD k) from q1)
  refine ⟨_, h1, a, _, rfl, DGet.k h2, (valV (ks.zip vs) k).isSome, rfl, ?_⟩
  have e : (valV (ks.zip vs) k).isSome = (dgK ((ks.map keyD).zip ds) k).isSome := by
    rcases valG asK_keyD k h4 h5 with ⟨z1, z2⟩ | ⟨d', v, z1, z2, z3⟩
    · rw [z2, show dgK ((ks.map keyD).zip ds) k = none from z1]
      rfl
    · rw [z2, show dgK ((ks.map keyD).zip ds) k = some d' from z1]
      rfl
  rw [e]
  exact k1 H1 s1 d1
theorem ft_dninK (i : Nat) {x : Str} {e : Expr} {F : SE → M D} {px pos : Pos} (hu : X.A.units + 1 < cLine) (h : FE X c U e F) (hk : c.dk i = .dic := by rfl) (hN : X.N[i]? = some x := by rfl) (hv : Vis X.env.scope x := by first | exact Or.inl rfl | exact Or.inr (Or.inl rfl) | exact Or.inr (Or.inr rfl)) (hd : (x == ("__debug__" : Str)) = false := by decide) (hcd : (x == ("__classdict__" : Str)) = false := by decide) :
    FT X c U (.Compare e [.NotIn] [.Name x px] pos) (eDin true hasK i F) := by
  obtain ⟨t, p, r⟩ := h
  refine ⟨_, pt_cmp (pc_dnotin hu p (pe_var hN hv hd hcd)) rfl, fun Z H0 O en σ H m Q hE hG => ?_⟩
  refine r Z H0 O en σ H m _ hE ((eDin_good hG).mono (fun kd m1 ⟨kvs, b, he, hb, k1⟩ y H1 s1 d1 q1 => ?_) fun _ _ k => k)
  have E1 := hE.step s1 d1
  obtain ⟨a, ks, vs, ds, h1, h2, rfl, h4, h5, h6, h7⟩ := E1.dicR he hk
  obtain ⟨k, hk1, rfl⟩ := Option.map_eq_some_iff.mp hb
  obtain rfl := asK_some hk1
  obtain rfl := Dq.key (show Dq X.K _ y (keyD k) from q1)
  refine ⟨_, h1, a, _, rfl, DGet.k h2, !(valV (ks.zip vs) k).isSome, rfl, ?_⟩
  have e : (valV (ks.zip vs) k).isSome = (dgK ((ks.map keyD).zip ds) k).isSome := by
    rcases valG asK_keyD k h4 h5 with ⟨z1, z2⟩ | ⟨d', v, z1, z2, z3⟩
    · rw [z2, show dgK ((ks.map keyD).zip ds) k = none from z1]
      rfl
    · rw [z2, show dgK ((ks.map keyD).zip ds) k = some d' from z1]
      rfl
  rw [e]
  exact k1 H1 s1 d1
theorem ft_dinT (i : Nat) {x : Str} {e : Expr} {F : SE → M D} {px pos : Pos} (hu : X.A.units + 1 < cLine) (h : FR X c U .pl e F) (hk : c.dk i = .dit := by rfl) (hN : X.N[i]? = some x := by rfl) (hv : Vis X.env.scope x := by first | exact Or.inl rfl | exact Or.inr (Or.inl rfl) | exact Or.inr (Or.inr rfl)) (hd : (x == ("__debug__" : Str)) = false := by decide) (hcd : (x == ("__classdict__" : Str)) = false := by decide) :
    FT X c U (.Compare e [.In] [.Name x px] pos) (eDin false hasT i F) := by
  obtain ⟨t, p, r⟩ := h
  refine ⟨_, pt_cmp (pc_din hu p (pe_var hN hv hd hcd)) rfl, fun Z H0 O en σ H m Q hE hG => ?_⟩
  refine r Z H0 O en σ H m _ hE ((eDin_good hG).mono (fun kd m1 ⟨kvs, b, he, hb, k1⟩ y H1 s1 d1 q1 => ?_) fun _ _ k => k)
  have E1 := hE.step s1 d1
  obtain ⟨a, ks, vs, ds, h1, h2, rfl, h4, h5, h6, h7⟩ := E1.ditR he hk
  obtain ⟨k, hk1, rfl⟩ := Option.map_eq_some_iff.mp hb
  obtain rfl := asT_some hk1
  obtain ⟨b, rfl, hb'⟩ := Dz.key (show Dz X.K _ y (keyT k) from q1)
  refine ⟨_, h1, a, _, rfl, DGet.t h2 (hide_some hb').2, (valV (ks.zip vs) k).isSome, rfl, ?_⟩
  have e : (valV (ks.zip vs) k).isSome = (dgT ((ks.map keyT).zip ds) k).isSome := by
    rcases valG asT_keyT k h4 h5 with ⟨z1, z2⟩ | ⟨d', v, z1, z2, z3⟩
    · rw [z2, show dgT ((ks.map keyT).zip ds) k = none from z1]
      rfl
    · rw [z2, show dgT ((ks.map keyT).zip ds) k = some d' from z1]
      rfl
  rw [e]
  exact k1 H1 s1 d1
theorem ft_dninT (i : Nat) {x : Str} {e : Expr} {F : SE → M D} {px pos : Pos} (hu : X.A.units + 1 < cLine) (h : FR X c U .pl e F) (hk : c.dk i = .dit := by rfl) (hN : X.N[i]? = some x := by rfl) (hv : Vis X.env.scope x := by first | exact Or.inl rfl | exact Or.inr (Or.inl rfl) | exact Or.inr (Or.inr rfl)) (hd : (x == ("__debug__" : Str)) = false := by decide) (hcd : (x == ("__classdict__" : Str)) = false := by decide) :
    FT X c U (.Compare e [.NotIn] [.Name x px] pos) (eDin true hasT i F) := by
  obtain ⟨t, p, r⟩ := h
  refine ⟨_, pt_cmp (pc_dnotin hu p (pe_var hN hv hd hcd)) rfl, fun Z H0 O en σ H m Q hE hG => ?_⟩
  refine r Z H0 O en σ H m _ hE ((eDin_good hG).mono (fun kd m1 ⟨kvs, b, he, hb, k1⟩ y H1 s1 d1 q1 => ?_) fun _ _ k => k)
  have E1 := hE.step s1 d1
  obtain ⟨a, ks, vs, ds, h1, h2, rfl, h4, h5, h6, h7⟩ := E1.ditR he hk
  obtain ⟨k, hk1, rfl⟩ := Option.map_eq_some_iff.mp hb
  obtain rfl := asT_some hk1
  obtain ⟨b, rfl, hb'⟩ := Dz.key (show Dz X.K _ y (keyT k) from q1)
  refine ⟨_, h1, a, _, rfl, DGet.t h2 (hide_some hb').2, !(valV (ks.zip vs) k).isSome, rfl, ?_⟩
  have e : (valV (ks.zip vs) k).isSome = (dgT ((ks.map keyT).zip ds) k).isSome := by
    rcases valG asT_keyT k h4 h5 with ⟨z1, z2⟩ | ⟨d', v, z1, z2, z3⟩
    · rw [z2, show dgT ((ks.map keyT).zip ds) k = none from z1]
      rfl
    · rw [z2, show dgT ((ks.map keyT).zip ds) k = some d' from z1]
      rfl
  rw [e]
  exact k1 H1 s1 d1
/-- len(d), the dict's name -/
def eDlen (i : Nat) : SE → M D := fun en => do
  let kvs ← lft (dicAt i en)
  pure (.int kvs.length)
/-- d[k] = v -/
def putKq (kvs : List (D × D)) (k d : D) : Option (List (D × D)) := if kvs.length < lineN then (asK k).map fun k => dpK kvs k d else none
def putTq (kvs : List (D × D)) (k d : D) : Option (List (D × D)) := if kvs.length < lineN then (asT k).map fun k => dpT kvs k d else none
def sDput (put : List (D × D) → D → D → Option (List (D × D))) (i : Nat) (Fk F : SE → M D) : SE → M Ctl := fun en => do
  let d ← F en
  let kvs ← lft (dicAt i en)
  let k ← Fk en
  let r ← lft (put kvs k d)
  pure (.nx (en.set i (some (.dict r))))
theorem zip_len {α β : Type} {xs : List α} {ys : List β} (h : xs.length = ys.length) : (xs.zip ys).length = xs.length := by
  rw [List.length_zip]
  omega
theorem fs_dputK (i : Nat) {x : Str} {ei e : Expr} {Fk F : SE → M D} {px spos pos : Pos} (hu : X.A.units + 1 < cLine) (hk : FE X c U ei Fk) (h : FE X c U e F) (hU : i ∈ U := by decide) (hdk : c.dk i = .dic := by rfl) (hN : X.N[i]? = some x := by rfl) (hv : Vis X.env.scope x := by first | exact Or.inl rfl | exact Or.inr (Or.inl rfl) | exact Or.inr (Or.inr rfl)) (hd : (x == ("__debug__" : Str)) = false := by decide) (hcd : (x == ("__classdict__" : Str)) = false := by decide)
    (hs : swapsWith e (some (.Subscript (.Name x px) ei spos)) pos.line X.env = pure false := by rfl) :
    FS X c UL U (.Assign [.Subscript (.Name x px) ei spos] e pos) (sDput putKq i Fk F) U := by
  obtain ⟨tk, pk, rk⟩ := hk
  obtain ⟨t, p, r⟩ := h
  refine ⟨_, ps_dput hu (pe_var hN hv hd hcd) pk p hs, fun Z H0 O en σ H m Ds hE hG => ?_⟩
  refine r Z H0 O en σ H m _ hE (hG.bd.mono (fun d m1 k1 v H1 s1 d1 q1 => ?_) fun _ _ k => (ExK.out hE k))
  have E1 := hE.step s1 d1
  obtain ⟨kvs, he, k1⟩ := k1.bd.lft
  obtain ⟨a, ks, vs, ds, h1, h2, rfl, h4, h5, h6, h7⟩ := E1.dicR he hdk
  refine ⟨_, h1, rk Z H0 O en σ H1 m1 _ E1 (k1.bd.mono (fun kd m2 k2 w H2 s2 d2 q2 => ?_) fun _ _ k => (ExK.out E1 k))⟩
  obtain ⟨rs, hr, k3⟩ := k2.bd.lft
  have E2 := E1.step s2 d2
  have hr : (if ((ks.map keyD).zip ds).length < lineN then (asK kd).map fun k => dpK ((ks.map keyD).zip ds) k d else none) = some rs := hr
  by_cases hz : ((ks.map keyD).zip ds).length < lineN
  · rw [if_pos hz] at hr
    obtain ⟨k, hk1, rfl⟩ := Option.map_eq_some_iff.mp hr
    obtain rfl := asK_some hk1
    obtain rfl := Dq.key (show Dq X.K _ w (keyD k) from q2)
    have h2' : H2 a = some (.dK (ks.zip vs)) := s2 _ _ h6 h2
    have hlen : (ks.zip vs).length < sizeLine := by
      rw [zip_len h5]
      rw [zip_len (by rw [List.length_map, h5, DqAll.length h4]), List.length_map] at hz
      exact own_line hz
    refine ⟨a, _, rfl, DPut.k h2' hlen, ?_⟩
    obtain ⟨ks', vs', ds', w1, w2, w3, w4⟩ := putG asK_keyD (k := k) (Dq.mono (s2.hide hE.wzo) q1) (DqAll.mono (s2.hide hE.wzo) h4) h5
    have w3 : dpK ((ks.map keyD).zip ds) k d = (ks'.map keyD).zip ds' := w3
    rw [w4]
    refine k3 O σ _ (E2.write (h7 hU) ?_ hdk)
    rw [w3]
    exact .dic _ _ (.k ks' vs' ds' w1 w2)
  · rw [if_neg hz] at hr
    cases hr
theorem fs_dputT (i : Nat) {x : Str} {ei e : Expr} {Fk F : SE → M D} {px spos pos : Pos} (hu : X.A.units + 1 < cLine) (hk : FR X c U .pl ei Fk) (h : FE X c U e F) (hU : i ∈ U := by decide) (hdk : c.dk i = .dit := by rfl) (hN : X.N[i]? = some x := by rfl) (hv : Vis X.env.scope x := by first | exact Or.inl rfl | exact Or.inr (Or.inl rfl) | exact Or.inr (Or.inr rfl)) (hd : (x == ("__debug__" : Str)) = false := by decide) (hcd : (x == ("__classdict__" : Str)) = false := by decide)
    (hs : swapsWith e (some (.Subscript (.Name x px) ei spos)) pos.line X.env = pure false := by rfl) :
    FS X c UL U (.Assign [.Subscript (.Name x px) ei spos] e pos) (sDput putTq i Fk F) U := by
  obtain ⟨tk, pk, rk⟩ := hk
  obtain ⟨t, p, r⟩ := h
  refine ⟨_, ps_dput hu (pe_var hN hv hd hcd) pk p hs, fun Z H0 O en σ H m Ds hE hG => ?_⟩
  refine r Z H0 O en σ H m _ hE (hG.bd.mono (fun d m1 k1 v H1 s1 d1 q1 => ?_) fun _ _ k => (ExK.out hE k))
  have E1 := hE.step s1 d1
  obtain ⟨kvs, he, k1⟩ := k1.bd.lft
  obtain ⟨a, ks, vs, ds, h1, h2, rfl, h4, h5, h6, h7⟩ := E1.ditR he hdk
  refine ⟨_, h1, rk Z H0 O en σ H1 m1 _ E1 (k1.bd.mono (fun kd m2 k2 w H2 s2 d2 q2 => ?_) fun _ _ k => (ExK.out E1 k))⟩
  obtain ⟨rs, hr, k3⟩ := k2.bd.lft
  have E2 := E1.step s2 d2
  have hr : (if ((ks.map keyT).zip ds).length < lineN then (asT kd).map fun k => dpT ((ks.map keyT).zip ds) k d else none) = some rs := hr
  by_cases hz : ((ks.map keyT).zip ds).length < lineN
  · rw [if_pos hz] at hr
    obtain ⟨k, hk1, rfl⟩ := Option.map_eq_some_iff.mp hr
    obtain rfl := asT_some hk1
    obtain ⟨b, rfl, hb'⟩ := Dz.key (show Dz X.K _ w (keyT k) from q2)
    have h2' : H2 a = some (.dT (ks.zip vs)) := s2 _ _ h6 h2
    have hlen : (ks.zip vs).length < sizeLine := by
      rw [zip_len h5]
      rw [zip_len (by rw [List.length_map, h5, DqAll.length h4]), List.length_map] at hz
      exact own_line hz
    refine ⟨a, _, rfl, DPut.t h2' (hide_some hb').2 hlen, ?_⟩
    obtain ⟨ks', vs', ds', w1, w2, w3, w4⟩ := putG asT_keyT (k := k) (Dq.mono (s2.hide hE.wzo) q1) (DqAll.mono (s2.hide hE.wzo) h4) h5
    have w3 : dpT ((ks.map keyT).zip ds) k d = (ks'.map keyT).zip ds' := w3
    rw [w4]
    refine k3 O σ _ (E2.write (h7 hU) ?_ hdk)
    rw [w3]
    exact .dic _ _ (.t ks' vs' ds' w1 w2)
  · rw [if_neg hz] at hr
    cases hr
end
end VL
/-! the value layer: loops and comprehensions -/
namespace VL
open PySem
open PySem.Spec
open L2

/-- what a turn yields -/
def YD (K : PySem.W.Frag) (Zs : List Addr) (H1 : Hp) (k : Kd) (ds : List D) : Nat → Hp → V → Hp → Prop := fun i H x H' =>
  Same H H' ∧ ∃ d, ds[i]? = some d ∧ ∀ Zs', (∀ z ∈ Zs', H z ≠ none) → Same (hide Zs H1) (hide Zs' H) → Res K (hide Zs' H') k d x
/-- an iterable: F, what it gives -/
def FI (X : Cx) (c : Ct) (U : List Nat) (k : Kd) (tg e : Expr) (F : SE → M (List D)) : Prop :=
  ∃ wi : TI, PI X tg e wi ∧ ∀ Z H0 O en σ H m R, EnvOk X.K c.W c.ms c.dk Z H0 U O en σ H m →
    Good (F en m) (fun ds m' => ∀ J H1, SameW c.W H H1 → DrawOk c.W H1 m' → Walk J ds.length (fun H' => Same (hide (ZO Z O) H1) H') (YD X.K (ZO Z O) H1 k ds) → R J H1) (fun x m' => ExK X c (ZO Z O) σ H x m') → wi σ H R
/-- the kinds that items may have -/
def itemK : Kd → Kd
  | .pl => .pl
  | _ => .dat
def iL (g : D → Option (List D)) (F : SE → M D) : SE → M (List D) := fun en => do
  let d ← F en
  lft (g d)
def seqL : D → Option (List D)
  | .list xs => some xs
  | _ => none
def seqT : D → Option (List D)
  | .tuple xs => some xs
  | _ => none
theorem seqL_some {d : D} {xs : List D} (h : seqL d = some xs) : d = .list xs := by
  cases d <;> first | cases h | skip
  rfl
theorem seqT_some {d : D} {xs : List D} (h : seqT d = some xs) : d = .tuple xs := by
  cases d <;> first | cases h | skip
  rfl
/-- items of the kind -/
def ItemsR (K : PySem.W.Frag) (H : Hp) (k : Kd) (vs : List V) (ds : List D) : Prop := vs.length = ds.length ∧ ∀ (i : Nat) (d : D), ds[i]? = some d → ∃ v : V, vs[i]? = some v ∧ Res K H k d v
theorem Res.lstI {K : PySem.W.Frag} {H : Hp} {k : Kd} {xs : List D} {v : V} (h : Res K H k (.list xs) v) : ∃ a vs, v = .ref a ∧ Rd H a (.lst vs) ∧ ItemsR K H (itemK k) vs xs := by
  have dat : Dq K H v (.list xs) → ∃ a vs, v = .ref a ∧ Rd H a (.lst vs) ∧ ItemsR K H .dat vs xs := fun h => by
    obtain ⟨a, vs, h1, h2, h3⟩ := Dq.lstE h
    exact ⟨a, vs, h1, h2, DqAll.length h3, fun i d e => DqAll.get h3 e⟩
  cases k with
  | dat => exact dat h
  | dic =>
    obtain ⟨_, _, _, _, e, _⟩ := h
    cases e
  | dit =>
    obtain ⟨_, _, _, _, e, _⟩ := h
    cases e
  | nd => exact dat h.1
  | pl =>
    have h : Dz K H v (.list xs) := h
    cases h with
    | lst h1 h2 => exact ⟨_, _, rfl, h1, DqAll.length (DzAll.dq h2), fun i d e => DzAll.get h2 e⟩
theorem Res.tupI {K : PySem.W.Frag} {H : Hp} {k : Kd} {xs : List D} {v : V} (h : Res K H k (.tuple xs) v) : ∃ a vs, v = .ref a ∧ Rd H a (.tup vs) ∧ ItemsR K H (itemK k) vs xs := by
  have dat : Dq K H v (.tuple xs) → ∃ a vs, v = .ref a ∧ Rd H a (.tup vs) ∧ ItemsR K H .dat vs xs := fun h => by
    obtain ⟨a, vs, h1, h2, h3⟩ := Dq.tupE h
    exact ⟨a, vs, h1, h2, DqAll.length h3, fun i d e => DqAll.get h3 e⟩
  cases k with
  | dat => exact dat h
  | dic =>
    obtain ⟨_, _, _, _, e, _⟩ := h
    cases e
  | dit =>
    obtain ⟨_, _, _, _, e, _⟩ := h
    cases e
  | nd => exact dat h.1
  | pl =>
    have h : Dz K H v (.tuple xs) := h
    cases h with
    | tup h1 h2 => exact ⟨_, _, rfl, .inl h1, DqAll.length (DzAll.dq h2), fun i d e => DzAll.get h2 e⟩
/-- walking what stands at an address -/
theorem YD.at {K : PySem.W.Frag} {Zs : List Addr} {H1 : Hp} {k : Kd} {vs : List V} {ds : List D} (h : ItemsR K (hide Zs H1) k vs ds) {i : Nat} {H : Hp} {x : V} {H' : Hp} (hi : i < ds.length) (y : YAt vs i H x H') : YD K Zs H1 k ds i H x H' := by
  obtain ⟨rfl, hx⟩ := y
  refine ⟨Same.refl _, ds[i], List.getElem?_eq_getElem hi, fun Zs' _ s => ?_⟩
  obtain ⟨v, h1, h2⟩ := h.2 i _ (List.getElem?_eq_getElem hi)
  rw [hx] at h1
  cases h1
  exact h2.mono s
section
variable {X : Cx} {c : Ct} {U Un UL : List Nat} {tg : Expr}
theorem fi_l {k : Kd} {e : Expr} {F : SE → M D} (h : FR X c U k e F) : FI X c U (itemK k) tg e (iL seqL F) := by
  obtain ⟨t, p, r⟩ := h
  refine ⟨_, pi_list p, fun Z H0 O en σ H m R hE hG => r Z H0 O en σ H m _ hE (hG.bd.mono (fun d m1 k1 v H1 s1 d1 q1 => ?_) fun _ _ k => k)⟩
  obtain ⟨xs, hx, k2⟩ := k1.lft
  obtain rfl := seqL_some hx
  obtain ⟨a, vs, rfl, h1, h2⟩ := q1.lstI
  refine ⟨a, rfl, ⟨vs, .inl (same_rd (hide_same _ _) h1)⟩, k2 _ H1 s1 d1 ?_⟩
  rw [← h2.1]
  exact walk_list.mono (fun H' s => .inl (same_rd s h1)) fun i H x H' hi _ y => YD.at h2 (by rw [← h2.1]; exact hi) y
theorem fi_t {k : Kd} {e : Expr} {F : SE → M D} (h : FR X c U k e F) : FI X c U (itemK k) tg e (iL seqT F) := by
  obtain ⟨t, p, r⟩ := h
  refine ⟨_, pi_tup p, fun Z H0 O en σ H m R hE hG => r Z H0 O en σ H m _ hE (hG.bd.mono (fun d m1 k1 v H1 s1 d1 q1 => ?_) fun _ _ k => k)⟩
  obtain ⟨xs, hx, k2⟩ := k1.lft
  obtain rfl := seqT_some hx
  obtain ⟨a, vs, rfl, h1, h2⟩ := q1.tupI
  refine ⟨a, rfl, ⟨vs, .inl (same_rd (hide_same _ _) h1)⟩, k2 _ H1 s1 d1 ?_⟩
  rw [← h2.1]
  exact walk_tup.mono (fun H' s => .inl (same_rd s h1)) fun i H x H' hi _ y => YD.at h2 (by rw [← h2.1]; exact hi) y
/-! ### range -/
def rngI (lo : Int) (n : Nat) : List D := (List.range n).map fun i => .int (lo + (i : Nat))
def rng1 : List D → Option (List D)
  | [.int j] => if -(2 ^ 62) ≤ j ∧ j < 2 ^ 62 then some (rngI 0 j.toNat) else none
  | _ => none
def rng2 : List D → Option (List D)
  | [.int i, .int j] => if -(2 ^ 62) ≤ i ∧ i < 2 ^ 62 ∧ -(2 ^ 62) ≤ j ∧ j < 2 ^ 62 then some (rngI i (j - i).toNat) else none
  | _ => none
def iA (g : List D → Option (List D)) (F : SE → M (List D)) : SE → M (List D) := fun en => do
  let d ← F en
  lft (g d)
theorem rngI_get {lo : Int} {n i : Nat} (h : i < n) : (rngI lo n)[i]? = some (.int (lo + (i : Nat))) := by
  unfold rngI
  rw [List.getElem?_map, List.getElem?_range h]
  rfl
theorem walk_rng {K : PySem.W.Frag} {Zs : List Addr} {H1 : Hp} {G : Hp → Prop} {lo : Int} {n : Nat} : Walk (Itr lo n) (rngI lo n).length G (YD K Zs H1 .dat (rngI lo n)) := by
  have hl : (rngI lo n).length = n := by
    unfold rngI
    rw [List.length_map, List.length_range]
  rw [hl]
  refine walk_range.mono (fun _ _ => trivial) fun i H x H' hi _ y => ?_
  obtain ⟨rfl, rfl⟩ := y
  exact ⟨Same.refl _, _, rngI_get hi, fun _ _ _ => Dq.int _⟩
theorem AllK.one {K : PySem.W.Frag} {H : Hp} {k : Kd} : ∀ {vs : List V} {ds : List D}, AllK K H [k] vs ds → ∃ v d, vs = [v] ∧ ds = [d] ∧ Res K H k d v
  | [], _, h => by cases h
  | [_], [], h => by cases h
  | [v], [d], h => ⟨v, d, rfl, rfl, h.1⟩
  | [_], _ :: _ :: _, h => h.2.elim
  | _ :: _ :: _, [], h => by cases h
  | _ :: _ :: _, [_], h => h.2.elim
  | _ :: _ :: _, _ :: _ :: _, h => h.2.elim
theorem AllK.two {K : PySem.W.Frag} {H : Hp} {k k' : Kd} : ∀ {vs : List V} {ds : List D}, AllK K H [k, k'] vs ds → ∃ v w d e, vs = [v, w] ∧ ds = [d, e] ∧ Res K H k d v ∧ Res K H k' e w
  | [], _, h => by cases h
  | _ :: _, [], h => by cases h
  | v :: vs, d :: ds, h => by
    obtain ⟨w, e, rfl, rfl, r⟩ := AllK.one (show AllK K H [k'] vs ds from h.2)
    exact ⟨v, w, d, e, rfl, rfl, h.1, r⟩
theorem rng1_some {ds xs : List D} (h : rng1 ds = some xs) : ∃ j : Int, ds = [.int j] ∧ (-(2 ^ 62) ≤ j ∧ j < 2 ^ 62) ∧ xs = rngI 0 j.toNat := by
  unfold rng1 at h
  split at h
  · rename_i j
    by_cases hc : -(2 ^ 62) ≤ j ∧ j < 2 ^ 62
    · rw [if_pos hc] at h
      cases h
      exact ⟨j, rfl, hc, rfl⟩
    · rw [if_neg hc] at h
      cases h
  · cases h
theorem rng2_some {ds xs : List D} (h : rng2 ds = some xs) : ∃ i j : Int, ds = [.int i, .int j] ∧ (-(2 ^ 62) ≤ i ∧ i < 2 ^ 62 ∧ -(2 ^ 62) ≤ j ∧ j < 2 ^ 62) ∧ xs = rngI i (j - i).toNat := by
  unfold rng2 at h
  split at h
  · rename_i i j
    by_cases hc : -(2 ^ 62) ≤ i ∧ i < 2 ^ 62 ∧ -(2 ^ 62) ≤ j ∧ j < 2 ^ 62
    · rw [if_pos hc] at h
      cases h
      exact ⟨i, j, rfl, hc, rfl⟩
    · rw [if_neg hc] at h
      cases h
  · cases h
theorem fi_rng1 {a : Expr} {F : SE → M (List D)} {p pos : Pos} (hm : X.mg "range" = none) (h : FA X c U [a] [.dat] F) (hg : Gl X "range" := by rfl) (hs : starEach [a] X.env = [(false, eval a X.env)] := by rfl) : FI X c U .dat tg (.Call (.Name "range" p) [a] [] pos) (iA rng1 F) := by
  obtain ⟨t, p, r⟩ := h
  refine ⟨_, pi_range1 hg hm p hs, fun Z H0 O en σ H m R hE hG => r Z H0 O en σ H m _ hE (hG.bd.mono (fun ds m1 k1 vs H1 s1 d1 q1 => ?_) fun _ _ k => k)⟩
  obtain ⟨xs, hx, k2⟩ := k1.lft
  obtain ⟨j, rfl, hc, rfl⟩ := rng1_some hx
  obtain ⟨v, d, rfl, e, q5⟩ := q1.one
  cases e
  cases (show Dq X.K _ v (.int j) from q5)
  exact ⟨j, rfl, hc.1, hc.2, k2 _ H1 s1 d1 walk_rng⟩
theorem fi_rng2 {a b : Expr} {F : SE → M (List D)} {p pos : Pos} (hm : X.mg "range" = none) (h : FA X c U [a, b] [.dat, .dat] F) (hg : Gl X "range" := by rfl) (hs : starEach [a, b] X.env = [(false, eval a X.env), (false, eval b X.env)] := by rfl) (hs2 : starEach [b] X.env = [(false, eval b X.env)] := by rfl) : FI X c U .dat tg (.Call (.Name "range" p) [a, b] [] pos) (iA rng2 F) := by
  obtain ⟨t, p, r⟩ := h
  refine ⟨_, pi_range2 hg hm p hs hs2, fun Z H0 O en σ H m R hE hG => r Z H0 O en σ H m _ hE (hG.bd.mono (fun ds m1 k1 vs H1 s1 d1 q1 => ?_) fun _ _ k => k)⟩
  obtain ⟨xs, hx, k2⟩ := k1.lft
  obtain ⟨i, j, rfl, hc, rfl⟩ := rng2_some hx
  obtain ⟨v, w, d, e, rfl, e1, q5, q6⟩ := q1.two
  cases e1
  cases (show Dq X.K _ v (.int i) from q5)
  cases (show Dq X.K _ w (.int j) from q6)
  exact ⟨i, j, rfl, hc, k2 _ H1 s1 d1 walk_rng⟩
/-! ### pairs: enumerate and zip -/
/-- a new pair of two values -/
theorem YD.pair {K : PySem.W.Frag} {Zs : List Addr} {H1 : Hp} {k : Kd} {xs ys : Nat → Option V} {ds : List D} {i : Nat} {H : Hp} {v : V} {H' : Hp} (hk : k = .dat ∨ k = .pl) (y : YPair xs ys i H v H')
    (h : ∀ x z, xs i = some x → ys i = some z → ∃ a b, ds[i]? = some (.tuple [a, b]) ∧ Res K (hide Zs H1) k a x ∧ Res K (hide Zs H1) k b z) : YD K Zs H1 k ds i H v H' := by
  obtain ⟨T, x, z, rfl, hn, rfl, h1, h2⟩ := y
  obtain ⟨a, b, h3, h4, h5⟩ := h x z h1 h2
  refine ⟨same_new hn _, _, h3, fun Zs' hz s => ?_⟩
  have nT : T ∉ Zs' := fun q => hz T q hn
  have up : Same (hide Zs H1) (hide Zs' (upd H T (.tup [x, z]))) := Same.trans s (hide_push0 hn)
  have ht : hide Zs' (upd H T (.tup [x, z])) T = some (.tup [x, z]) := by rw [hide_ne nT, upd_same]
  rcases hk with rfl | rfl
  · exact Dq.tup (.inl ht) (.cons (h4.mono up) (.cons (h5.mono up) .nil))
  · exact Dz.tup ht (.cons (h4.mono up) (.cons (h5.mono up) .nil))
theorem itemK_or (k : Kd) : itemK k = .dat ∨ itemK k = .pl := by
  cases k <;> first | exact .inl rfl | exact .inr rfl
theorem res_int {K : PySem.W.Frag} {H : Hp} {k : Kd} (i : Int) : Res K H (itemK k) (.int i) (.int i) := by
  rcases itemK_or k with h | h
  · rw [h]; exact Dq.int i
  · rw [h]; exact Dz.int i
def enumD (xs : List D) : List D := (List.range xs.length).zipWith (fun i d => .tuple [.int (i : Nat), d]) xs
theorem enumD_len (xs : List D) : (enumD xs).length = xs.length := by
  unfold enumD
  rw [List.length_zipWith, List.length_range, Nat.min_self]
theorem enumD_get {xs : List D} {i : Nat} {d : D} (h : xs[i]? = some d) : (enumD xs)[i]? = some (.tuple [.int (i : Nat), d]) := by
  have hi := (List.getElem?_eq_some_iff.mp h).1
  unfold enumD
  rw [List.getElem?_zipWith, List.getElem?_range hi, h]
def zipD (xs ys : List D) : List D := xs.zipWith (fun a b => .tuple [a, b]) ys
theorem zipD_len (xs ys : List D) : (zipD xs ys).length = min xs.length ys.length := List.length_zipWith
theorem zipD_get {xs ys : List D} {i : Nat} {a b : D} (h : xs[i]? = some a) (h' : ys[i]? = some b) : (zipD xs ys)[i]? = some (.tuple [a, b]) := by
  unfold zipD
  rw [List.getElem?_zipWith, h, h']
end
end VL
set_option maxHeartbeats 2000000
/-! the value layer: enumerate and zip over lists and tuples alike -/
namespace VL
open PySem
open PySem.Spec
open L2

/-- a list (true) or a tuple (false) -/
def SqB (K : PySem.W.Frag) (H : Hp) (b : Bool) (a : Addr) (xs : List V) : Prop := match b with
  | true => SqL K H a xs
  | false => SqT K H a xs
def HeapB (b : Bool) (h : Heap) (a : Addr) (itv : Array Value) : Prop := match b with
  | true => h.IsList a itv
  | false => h.IsTuple a itv
def IterB (b : Bool) (h : Heap) (it a : Addr) (i : Nat) : Prop := match b with
  | true => h.IsListIter it a i
  | false => h.IsTupleIter it a i
def itObj (b : Bool) (a : Addr) : Obj := match b with
  | true => { cls := .type "list_iterator", data := .fields #[.ref a, .int 0 0] }
  | false => { cls := .type "tuple_iterator", data := .fields #[.ref a, .int 0 0] }
theorem begB (b : Bool) (a : Addr) (itv : Array Value) : Begins (.ref a) (itObj b a) (fun h => HeapB b h a itv) := by
  cases b with
  | true => exact begins_list a itv
  | false => exact begins_tuple a itv
theorem iterB_new {b : Bool} {h : Heap} {it a : Addr} (e : h.get? it = some (itObj b a)) : IterB b h it a 0 := by
  cases b with
  | true => exact ⟨_, e, rfl, rfl⟩
  | false => exact ⟨_, e, rfl, rfl⟩
theorem iterB_obj {b : Bool} {h : Heap} {it a : Addr} {i : Nat} (stt : IterB b h it a i) : ∃ o, h.get? it = some o ∧ ∀ v, o.data ≠ .cell v := by
  cases b with
  | true =>
    obtain ⟨o, e, _, d⟩ := stt
    exact ⟨o, e, fun v q => by rw [d] at q; cases q⟩
  | false =>
    obtain ⟨o, e, _, d⟩ := stt
    exact ⟨o, e, fun v q => by rw [d] at q; cases q⟩
theorem iterB_at {b : Bool} {h h' : Heap} {it a : Addr} {i : Nat} (stt : IterB b h it a i) (k : ∀ o, h.get? it = some o → h'.get? it = some o) : IterB b h' it a i := by
  cases b with
  | true => exact Heap.IsListIter.at stt k
  | false => exact Heap.IsTupleIter.at stt k
theorem heapB_at {b : Bool} {h h' : Heap} {a : Addr} {itv : Array Value} (stt : HeapB b h a itv) (k : ∀ o, h.get? a = some o → h'.get? a = some o) : HeapB b h' a itv := by
  cases b with
  | true => exact Heap.IsList.at stt k
  | false => exact Heap.IsTuple.at stt k
theorem heapB_lt {b : Bool} {h : Heap} {a : Addr} {itv : Array Value} (stt : HeapB b h a itv) : a < h.objs.size := by
  cases b with
  | true =>
    obtain ⟨o, e, _⟩ := stt
    exact Heap.lt_size e
  | false =>
    obtain ⟨o, e, _⟩ := stt
    exact Heap.lt_size e
theorem drawsB {prog : Program} {w : World} {A : Around} (hh : A.handled = none) (b : Bool) (it a : Addr) (nee : a ≠ it) (items : Array Value) :
    Draws prog w A it [it, a] items.size (fun i v => items[i]? = some v) (fun i h => IterB b h it a i ∧ HeapB b h a items) := by
  cases b with
  | true => exact Draws.list hh it a nee items
  | false => exact Draws.tuple hh it a nee items
section
variable {X : Cx} {pns : List (Addr × Obj)} {σ : L2.St} {H : Hp} {s : Shared}
theorem inv_sqB (I : Inv X pns σ H s) {b : Bool} {a : Addr} {xs : List V} (h : SqB X.K H b a xs) : ∃ itv, Vals xs itv ∧ HeapB b s.heap a itv.toArray := by
  cases b with
  | true =>
    obtain ⟨itv, rvl, p, _⟩ := I.list h
    exact ⟨itv, rvl, p.isList⟩
  | false =>
    obtain ⟨itv, rvl, p, _⟩ := I.tuple h
    exact ⟨itv, rvl, p⟩
theorem inv_sqB_inj (I : Inv X pns σ H s) {b : Bool} {a : Addr} {xs ys : List V} (h : SqB X.K H b a xs) (h' : SqB X.K H b a ys) : xs = ys := by
  cases b with
  | true => exact I.list_inj h h'
  | false => exact I.tuple_inj h h'
end
theorem sqB_of {K : PySem.W.Frag} {H : Hp} {a : Addr} {vs : List V} (h : Rd H a (.lst vs)) : SqB K H true a vs := .inl h
theorem sqB_ofT {K : PySem.W.Frag} {H : Hp} {a : Addr} {vs : List V} (h : Rd H a (.tup vs)) : SqB K H false a vs := .inl h

/-! ### enumerate -/
def ItE (K : PySem.W.Frag) (b : Bool) (a : Addr) : It :=
  ⟨fun i H => ∃ (xs : List V) (x : V), SqB K H b a xs ∧ xs[i]? = some x, fun i H v H' => ∃ T x, v = .ref T ∧ H T = none ∧ H' = upd H T (.tup [.int (i : Nat), x]) ∧ ∀ xs, SqB K H b a xs → xs[i]? = some x, fun i H => ∃ xs : List V, SqB K H b a xs ∧ xs.length = i⟩
theorem turn_enumB {P : Program} {w : World} {K : PySem.W.Frag} {elts : List Expr} {kk : Nat} {tpos : Pos} (b : Bool) (a e it : Addr) (hae : a ≠ e) (hai : a ≠ it) :
    Turn P w K (.Tuple elts kk tpos) (ItE K b a) [e, it] e (fun i h => (∃ old, IsEnum h e it ((i : Nat) : Int) old) ∧ IterB b h it a i ∧ e ≠ it) where
  mem := by simp
  obj := fun i h stt c hc => by
    obtain ⟨⟨old, ena⟩, hi, _⟩ := stt
    have e' : c = e ∨ c = it := by simpa using hc
    rcases e' with z | z
    · rw [z]; exact ⟨_, ena, fun v q => nomatch q⟩
    · rw [z]; exact iterB_obj hi
  keep := fun i h h' stt k => let ⟨⟨old, ena⟩, hi, nee⟩ := stt; ⟨⟨old, k e (by simp) _ ena⟩, iterB_at hi fun o q => k it (by simp) o q, nee⟩
  item := by
    intro X eP hw eK hc i pns s σ H E I fok stt gok
    subst eP hw eK
    obtain ⟨⟨old, ena⟩, itt, nee⟩ := stt
    obtain ⟨xs, x, sqh, xat⟩ := gok
    obtain ⟨itv, rvl, p⟩ := inv_sqB I sqh
    obtain ⟨u, uat, urel⟩ := rvl.get xat
    have elt0 : e < s.heap.objs.size := Heap.lt_size ena
    obtain ⟨oit, hoit, _⟩ := iterB_obj itt
    have ilt0 : it < s.heap.objs.size := Heap.lt_size hoit
    have ltt : i < itv.toArray.size := by
      rw [List.size_toArray]
      exact (List.getElem?_eq_some_iff.mp uat).1
    have hef : e ∉ [it, a] := by
      simp only [List.mem_cons, List.not_mem_nil, or_false, not_or]
      exact ⟨nee, fun t => hae t.symm⟩
    refine wpAny_pyNext_enum_itemC (drawsB (A := X.A.in1) (show X.A.in1.handled = none from I.ok.hd hc) b it a hai itv.toArray) ena ⟨itt, p⟩ ltt nee hef fun u' h' tk hu' ho hst' hT szz kpt => ?_
    have eu : u' = u := by
      have hu' : itv.toArray[i]? = some u' := hu'
      rw [List.getElem?_toArray] at hu'
      rw [uat] at hu'
      exact (Option.some.inj hu').symm
    subst eu
    refine ⟨_, rfl, wpAny_letOwnedTupleGo_enum (s := { s with heap := h', toks := tk + 1 }) ho fun h'' he' sm1 => ?_⟩
    have tup2 : h''.get? s.heap.objs.size = some { cls := .type "tuple", data := .seq #[.int i tk, u'] } := (sm1.2 _ (Nat.ne_of_gt elt0)).trans hT
    have frsh : ObjOk X.prog X.w (upd H s.heap.objs.size (.tup [.int (i : Nat), x])) h'' s.heap.objs.size (.tup [.int (i : Nat), x]) :=
      ⟨by show 2 ≤ sizeLine; decide, [.int i tk, u'], .cons ⟨_, rfl⟩ (.cons urel .nil), ⟨_, tup2, rfl, _, rfl⟩⟩
    have Inw : Inv X pns σ (upd H s.heap.objs.size (.tup [.int (i : Nat), x])) { s with heap := h'', toks := tk + 1 } :=
      I.turnedNew (ch := [e, it]) (fun c ob hb q => (sm1.2 c (fun z => hb (by simp [z]))).trans (kpt c ob (fun z => hb (by simp [z])) (fun z => hb (by simp [z])) q)) fok (Nat.le_refl _) frsh
    refine ⟨.ref s.heap.objs.size, _, Inw, rfl, ⟨_, x, rfl, I.hok.fresh (Nat.le_refl _), rfl, fun ys yat => by rw [inv_sqB_inj I yat sqh]; exact xat⟩, ⟨⟨u', ?_⟩, iterB_at hst'.1 fun o q => (sm1.2 it (Ne.symm nee)).trans q, nee⟩, fun c hb => ?_⟩
    · have e1 : ((i + 1 : Nat) : Int) = (i : Int) + 1 := by omega
      rw [e1]; exact he'
    · have hb' : c < s.heap.objs.size := by
        have e' : c = e ∨ c = it := by simpa using hb
        rcases e' with z | z
        · rw [z]; exact elt0
        · rw [z]; exact ilt0
      rw [upd_ne (Nat.ne_of_lt hb')]
      exact (fok c hb).1
  done := by
    intro X eP hw eK hc i pns s σ H E I fok stt gok
    subst eP hw eK
    obtain ⟨⟨old, ena⟩, itt, nee⟩ := stt
    obtain ⟨xs, sqh, xat⟩ := gok
    obtain ⟨itv, rvl, p⟩ := inv_sqB I sqh
    obtain ⟨f0, f1, f2, f3, f4, f5⟩ := fok it (by simp)
    have hl := rvl.length
    have hi : itv.toArray.size = i := by rw [List.size_toArray]; omega
    subst hi
    exact wpAny_pyNext_enum_endD (drawsB (A := X.A.in1) (show X.A.in1.handled = none from I.ok.hd hc) b it a hai itv.toArray) ena ⟨itt, p⟩ fun h' eb => ⟨rfl, I.turned (t' := s.toks) (fun c o hb q => eb c o hb q) f0 f1 f3 f4 f5⟩
  self := fun A i s Q E stt h => let ⟨⟨_, ena⟩, _⟩ := stt; wpAny_pyIter_enum ena h
theorem meets_enumB {v : Value} {o : Obj} {H : Heap → Prop} (B : Begins v o H) :
    Meets (Builtin.«enumerate.__new__» ⟨[.type "enumerate", v], []⟩) (fun _ R s => H s.heap ∧
      R (.ok (.ret (.ref (s.heap.push o).objs.size))) { s with heap := (s.heap.push o).push { cls := .type "enumerate", data := .fields #[.none, .bool false, .ref s.heap.objs.size, rawInt 0, .none, .none] } }) :=
  .of_wp fun prog w A R s h => by
    obtain ⟨hp, g, d, tk, os⟩ := s; obtain ⟨h1, h⟩ := h
    have hsub := sub_enumerate
    have q1 : ∀ {A' : Around} {E : Value → Shared → Prop} {Q : Value → Shared → Prop}, Q (.ref hp.objs.size) ⟨hp.push o, g, d, tk, os⟩ → wpAny (model prog w) A' (pyIter v) Q E ⟨hp, g, d, tk, os⟩ :=
      fun q => B.iter prog w _ _ ⟨hp, g, d, tk, os⟩ _ h1 q
    wp_walk using q1
    refine wpAny_stack_any fun stt => wpAny_pure ?_
    split
    · rename_i c _ _ _ _ _
      cases (c == Value.type "enumerate")
      · wp_walk using q1
        exact ⟨_, rfl, h⟩
      · wp_walk using q1
        exact ⟨_, rfl, h⟩
    · wp_walk using q1
      exact ⟨_, rfl, h⟩
theorem call_enumB {prog : Program} {w : World} {A : Around} {E : Value → Shared → Prop} {s : Shared} {v : Value} {o : Obj} {H : Heap → Prop} {Q : Value → Shared → Prop} (B : Begins v o H) (h1 : H s.heap)
    (h : ∀ h', IsEnum h' (s.heap.objs.size + 1) s.heap.objs.size 0 .none → h'.get? s.heap.objs.size = some o → h'.objs.size = s.heap.objs.size + 2 →
      (∀ b o, s.heap.get? b = some o → h'.get? b = some o) → Q (.ref (s.heap.objs.size + 1)) { s with heap := h' }) :
    wpAny (model prog w) A (call (.type "enumerate") [v]) Q E s := by
  refine callType_new F.called_enumerate (by decide) (F.typeCall_enumerate_1 _) (F.newCall_enumerate_1 _) (fun obj => F.args_object_init_2 obj _) F.entry_enumerate_new
    (meets_enumB B) ⟨h1, ?_⟩
  have zat : (s.heap.push o).objs.size = s.heap.objs.size + 1 := Heap.size_push ..
  show _ ∧ _
  rw [zat]
  have ena : IsEnum ((s.heap.push o).push { cls := .type "enumerate", data := .fields #[.none, .bool false, .ref s.heap.objs.size, rawInt 0, .none, .none] }) (s.heap.objs.size + 1) s.heap.objs.size 0 .none := by
    have := Heap.get?_push_size (s.heap.push o) (o := { cls := .type "enumerate", data := .fields #[.none, .bool false, .ref s.heap.objs.size, rawInt 0, .none, .none] }) rfl
    rw [zat] at this; exact this
  refine ⟨⟨_, ena, rfl⟩, h _ ena (Heap.get?_push_of_some _ (Heap.get?_push_size _ B.free)) (by rw [Heap.size_push, zat]) fun b o x => Heap.get?_push_of_some _ (Heap.get?_push_of_some _ x)⟩
def iEnB (K : PySem.W.Frag) (b : Bool) (ta : TA) : TI := fun σ H R => ta σ H fun vs H1 => ∃ a xs, vs = [.ref a] ∧ SqB K H1 b a xs ∧ R (ItE K b a) H1
theorem pi_enumB {X : Cx} {e : Expr} {ta : TA} {p pos tpos : Pos} {elts : List Expr} {kk : Nat} (b : Bool) (gok : Gl X "enumerate") (hm : X.mg "enumerate" = none) (ha : PA X [e] ta) (hs : starEach [e] X.env = [(false, eval e X.env)] := by rfl) :
    PI X (.Tuple elts kk tpos) (.Call (.Name "enumerate" p) [e] [] pos) (iEnB X.K b ta) := by
  refine ⟨fun pns s σ H R I h => ?_⟩
  refine PyProof.Rows.Call_ (ld_blt I gok hm PyProof.Rows.boot_enumerate (PyProof.Rows.callWith_type1 (thn (ha.run pos pns s σ H _ I h) fun us s1 ⟨vs, H1, Inw, r1, q1⟩ => ?_) hs rfl))
  obtain ⟨a, xs, exq, sqh, q⟩ := q1
  subst exq
  cases r1 with
  | cons r rr =>
    cases rr
    cases r
    obtain ⟨itv, rvl, p'⟩ := inv_sqB Inw sqh
    refine call_enumB (begB b a itv.toArray) p' fun h' ena itt szz kpt => wpAny_pyIter_enum ena ?_
    have Inw2 : Inv X pns σ H1 { s1 with heap := h' } := Inw.kept (t' := s1.toks) kpt
    have ltt := heapB_lt p'
    refine ⟨s1.heap.objs.size + 1, [s1.heap.objs.size + 1, s1.heap.objs.size], _, _, H1, rfl, Inw2, turn_enumB b a (s1.heap.objs.size + 1) s1.heap.objs.size (Nat.ne_of_lt (Nat.lt_succ_of_lt ltt)) (Nat.ne_of_lt ltt), ⟨⟨.none, ena⟩, iterB_new itt, Nat.succ_ne_self _⟩, fun c hb => ?_, q⟩
    have e' : c = s1.heap.objs.size + 1 ∨ c = s1.heap.objs.size := by simpa using hb
    have lee : s1.heap.objs.size ≤ c := by
      rcases e' with z | z
      · rw [z]; exact Nat.le_add_right _ _
      · rw [z]; exact Nat.le_refl _
    exact Inw.fpOk lee (Inw.hok.fresh lee)
theorem walk_enB {K : PySem.W.Frag} {b : Bool} {a : Addr} {xs : List V} : Walk (ItE K b a) xs.length (fun H => SqB K H b a xs) (YPair (fun i => some (.int (i : Nat))) (fun i => xs[i]?)) := by
  refine ⟨fun i _ hi q => ⟨xs, xs[i], q, by simp [hi]⟩, fun _ q => ⟨xs, q, rfl⟩, fun i H v H' _ q y => ?_⟩
  obtain ⟨T, x, h1, h2, h3, h4⟩ := y
  exact ⟨T, .int (i : Nat), x, h1, h2, h3, rfl, h4 xs q⟩

/-! ### zip of two -/
def ItZ (K : PySem.W.Frag) (b1 b2 : Bool) (a1 a2 : Addr) : It :=
  ⟨fun i H => ∃ (xs ys : List V) (x y : V), SqB K H b1 a1 xs ∧ SqB K H b2 a2 ys ∧ xs[i]? = some x ∧ ys[i]? = some y,
    fun i H v H' => ∃ T x y, v = .ref T ∧ H T = none ∧ H' = upd H T (.tup [x, y]) ∧ (∀ xs, SqB K H b1 a1 xs → xs[i]? = some x) ∧ ∀ ys, SqB K H b2 a2 ys → ys[i]? = some y,
    fun i H => ∃ xs ys : List V, SqB K H b1 a1 xs ∧ SqB K H b2 a2 ys ∧ i ≤ xs.length ∧ i ≤ ys.length ∧ (i = xs.length ∨ i = ys.length)⟩
theorem turn_zipB {P : Program} {w : World} {K : PySem.W.Frag} {elts : List Expr} {kk : Nat} {tpos : Pos} {b1 b2 : Bool} {a1 a2 z TI TO i1 i2 : Addr} (S : ZipSep2 z TI TO i1 i2 [i1, a1] [i2, a2]) (n1 : a1 ≠ i1) (n2 : a2 ≠ i2) :
    Turn P w K (.Tuple elts kk tpos) (ItZ K b1 b2 a1 a2) [z, TI, TO, i1, i2] z (fun i h => IsZip h z TI TO .none ∧ IsTupOf2 h TI (.ref i1) (.ref i2) ∧ (∃ x y, IsTupOf2 h TO x y) ∧ IterB b1 h i1 a1 i ∧ IterB b2 h i2 a2 i) where
  mem := by simp
  obj := fun i h stt c hc => by
    obtain ⟨zat, tiat, ⟨x, y, toat⟩, h1, h2⟩ := stt
    have e' : c = z ∨ c = TI ∨ c = TO ∨ c = i1 ∨ c = i2 := by simpa using hc
    rcases e' with q | q | q | q | q
    · rw [q]; exact ⟨_, zat, fun v q => nomatch q⟩
    · rw [q]; exact ⟨_, tiat, fun v q => nomatch q⟩
    · rw [q]; exact ⟨_, toat, fun v q => nomatch q⟩
    · rw [q]; exact iterB_obj h1
    · rw [q]; exact iterB_obj h2
  keep := fun i h h' stt k => by
    obtain ⟨zat, tiat, ⟨x, y, toat⟩, h1, h2⟩ := stt
    exact ⟨k z (by simp) _ zat, k TI (by simp) _ tiat, ⟨x, y, k TO (by simp) _ toat⟩, iterB_at h1 fun o q => k i1 (by simp) o q, iterB_at h2 fun o q => k i2 (by simp) o q⟩
  item := by
    intro X eP hw eK hc i pns s σ H E I fok stt gok
    subst eP hw eK
    obtain ⟨zat, tiat, ⟨x0, y0, toat⟩, h1, h2⟩ := stt
    obtain ⟨xs, ys, x, y, sqx, sqy, xat, yat⟩ := gok
    obtain ⟨itv, rvl, p⟩ := inv_sqB I sqx
    obtain ⟨itv2, rvl2, p2⟩ := inv_sqB I sqy
    obtain ⟨u, uat, urel⟩ := rvl.get xat
    obtain ⟨u2, uat2, urel2⟩ := rvl2.get yat
    have zlt : z < s.heap.objs.size := Heap.lt_size zat
    have l1 : i < itv.toArray.size := by
      rw [List.size_toArray]
      exact (List.getElem?_eq_some_iff.mp uat).1
    have l2 : i < itv2.toArray.size := by
      rw [List.size_toArray]
      exact (List.getElem?_eq_some_iff.mp uat2).1
    refine wpAny_pyNext_zipD2_item S (drawsB (A := X.A.in1) (show X.A.in1.handled = none from I.ok.hd hc) b1 i1 a1 n1 itv.toArray) (drawsB (A := X.A.in1) (show X.A.in1.handled = none from I.ok.hd hc) b2 i2 a2 n2 itv2.toArray) zat tiat toat ⟨h1, p⟩ ⟨h2, p2⟩ l1 l2 fun x1 x2 h' tk e1 e2 z' TO' s1' s2' hT szz kpt => ?_
    have eu : x1 = u := by
      have e1 : itv.toArray[i]? = some x1 := e1
      rw [List.getElem?_toArray] at e1
      rw [uat] at e1
      exact (Option.some.inj e1).symm
    have eu2 : x2 = u2 := by
      have e2 : itv2.toArray[i]? = some x2 := e2
      rw [List.getElem?_toArray] at e2
      rw [uat2] at e2
      exact (Option.some.inj e2).symm
    subst eu eu2
    refine ⟨_, rfl, wpAny_letOwnedTupleGo_zip (s := { s with heap := h', toks := tk }) z' fun h'' z'' sm1 => ?_⟩
    have tup2 : h''.get? s.heap.objs.size = some { cls := .type "tuple", data := .seq #[x1, x2] } := (sm1.2 _ (Nat.ne_of_gt zlt)).trans hT
    have frsh : ObjOk X.prog X.w (upd H s.heap.objs.size (.tup [x, y])) h'' s.heap.objs.size (.tup [x, y]) :=
      ⟨by show 2 ≤ sizeLine; decide, [x1, x2], .cons urel (.cons urel2 .nil), ⟨_, tup2, rfl, _, rfl⟩⟩
    have Inw : Inv X pns σ (upd H s.heap.objs.size (.tup [x, y])) { s with heap := h'', toks := tk } :=
      I.turnedNew (t' := tk) (ch := [z, TI, TO, i1, i2]) (fun c o hb q => (sm1.2 c (fun q' => hb (by simp [q']))).trans (kpt c o (fun q' => hb (by simp [q'])) (fun q' => hb (by simp [q'])) (fun q' => hb (by simp [q'])) (fun q' => hb (by simp [q'])) q)) fok (Nat.le_refl _) frsh
    obtain ⟨oi1, hoi1, _⟩ := iterB_obj h1
    obtain ⟨oi2, hoi2, _⟩ := iterB_obj h2
    have ni1 : i1 ≠ z := fun t => S.zi1 t.symm
    have ni2 : i2 ≠ z := fun t => S.zi2 t.symm
    refine ⟨.ref s.heap.objs.size, _, Inw, rfl, ⟨_, x, y, rfl, I.hok.fresh (Nat.le_refl _), rfl, fun l hl => by rw [inv_sqB_inj I hl sqx]; exact xat, fun l hl => by rw [inv_sqB_inj I hl sqy]; exact yat⟩, ⟨z'', ?_, ⟨x1, x2, ?_⟩, ?_, ?_⟩, fun c cmem => ?_⟩
    · exact (sm1.2 _ S.TIz).trans (kpt _ _ S.TIz S.TITO S.TIi1 S.TIi2 tiat)
    · exact (sm1.2 _ S.TOz).trans TO'
    · exact iterB_at s1'.1 fun o q => (sm1.2 _ ni1).trans q
    · exact iterB_at s2'.1 fun o q => (sm1.2 _ ni2).trans q
    · have ltt : c < s.heap.objs.size := by
        have e' : c = z ∨ c = TI ∨ c = TO ∨ c = i1 ∨ c = i2 := by simpa using cmem
        rcases e' with q | q | q | q | q
        · rw [q]; exact zlt
        · rw [q]; exact Heap.lt_size tiat
        · rw [q]; exact Heap.lt_size toat
        · rw [q]; exact Heap.lt_size hoi1
        · rw [q]; exact Heap.lt_size hoi2
      rw [upd_ne (Nat.ne_of_lt ltt)]
      exact (fok c cmem).1
  done := by
    intro X eP hw eK hc i pns s σ H E I fok stt gok
    subst eP hw eK
    obtain ⟨zat, tiat, ⟨x0, y0, toat⟩, h1, h2⟩ := stt
    obtain ⟨xs, ys, sqx, sqy, le1, le2, endd⟩ := gok
    obtain ⟨itv, rvl, p⟩ := inv_sqB I sqx
    obtain ⟨itv2, rvl2, p2⟩ := inv_sqB I sqy
    have l1 := rvl.length
    have l2 := rvl2.length
    exact wpAny_pyNext_zipD2_end S (drawsB (A := X.A.in1) (show X.A.in1.handled = none from I.ok.hd hc) b1 i1 a1 n1 itv.toArray) (drawsB (A := X.A.in1) (show X.A.in1.handled = none from I.ok.hd hc) b2 i2 a2 n2 itv2.toArray) zat tiat toat ⟨h1, p⟩ ⟨h2, p2⟩ (by rw [List.size_toArray]; omega) (by rw [List.size_toArray]; omega) (by rw [List.size_toArray, List.size_toArray]; omega) fun h' tk kpt =>
      ⟨rfl, I.turnedL (t' := tk) (ch := [z, TI, TO, i1, i2]) (fun c o hb q => kpt c o (fun q' => hb (by simp [q'])) (fun q' => hb (by simp [q'])) (fun q' => hb (by simp [q'])) (fun q' => hb (by simp [q'])) q) fok⟩
  self := fun A i s Q E stt h => wpAny_pyIter_zip stt.1 h
def iZpB (K : PySem.W.Frag) (b1 b2 : Bool) (ta : TA) : TI := fun σ H R => ta σ H fun vs H1 => ∃ a1 a2 xs ys, vs = [.ref a1, .ref a2] ∧ SqB K H1 b1 a1 xs ∧ SqB K H1 b2 a2 ys ∧ R (ItZ K b1 b2 a1 a2) H1
theorem sepB {N a1 a2 : Addr} (h1 : a1 < N) (h2 : a2 < N) : ZipSep2 (N + 4) (N + 2) (N + 3) N (N + 1) [N, a1] [N + 1, a2] :=
  zip_sep2 (fp1 := [a1]) (fp2 := [a2]) (fun b hb => by rw [List.mem_singleton.mp hb]; exact h1) (fun b hb => by rw [List.mem_singleton.mp hb]; exact h2)
theorem pi_zipB {X : Cx} {e e2 : Expr} {ta : TA} {p pos tpos : Pos} {elts : List Expr} {kk : Nat} (b1 b2 : Bool) (gok : Gl X "zip") (hm : X.mg "zip" = none) (ha : PA X [e, e2] ta)
    (hs : starEach [e, e2] X.env = (false, eval e X.env) :: starEach [e2] X.env := by rfl) (hpl : (backTo pos (starEach [e2] X.env)).any (·.1) = false := by rfl) :
    PI X (.Tuple elts kk tpos) (.Call (.Name "zip" p) [e, e2] [] pos) (iZpB X.K b1 b2 ta) := by
  refine ⟨fun pns s σ H R I h => ?_⟩
  refine PyProof.Rows.Call_ (ld_blt I gok hm PyProof.Rows.boot_zip (PyProof.Rows.callWith_type1 (thn (ha.run pos pns s σ H _ I h) fun us s1 ⟨vs, H1, Inw, r1, q1⟩ => ?_) hs hpl))
  obtain ⟨a1, a2, xs, ys, exq, sqx, sqy, q⟩ := q1
  subst exq
  cases r1 with
  | cons r rr =>
    cases rr with
    | cons r' rr =>
      cases rr
      cases r
      cases r'
      obtain ⟨itv, rvl, p1⟩ := inv_sqB Inw sqx
      obtain ⟨itv2, rvl2, p2⟩ := inv_sqB Inw sqy
      have la := heapB_lt p1
      have lb := heapB_lt p2
      refine zip_begins2 (begB b1 a1 itv.toArray) (begB b2 a2 itv2.toArray) p1 p2 fun h' zat tiat toat h1 h2 szz kpt => wpAny_pyIter_zip zat ?_
      have Inw2 : Inv X pns σ H1 { s1 with heap := h' } := Inw.kept (t' := s1.toks) kpt
      refine ⟨s1.heap.objs.size + 4, [s1.heap.objs.size + 4, s1.heap.objs.size + 2, s1.heap.objs.size + 3, s1.heap.objs.size, s1.heap.objs.size + 1], _, _, H1, rfl, Inw2, turn_zipB (sepB la lb) (Nat.ne_of_lt la) (Nat.ne_of_lt (Nat.lt_succ_of_lt lb)), ⟨zat, tiat, ⟨_, _, toat⟩, iterB_new h1, iterB_new h2⟩, fun c cmem => ?_, q⟩
      have e' : c = s1.heap.objs.size + 4 ∨ c = s1.heap.objs.size + 2 ∨ c = s1.heap.objs.size + 3 ∨ c = s1.heap.objs.size ∨ c = s1.heap.objs.size + 1 := by simpa using cmem
      have lee : s1.heap.objs.size ≤ c := by
        rcases e' with z | z | z | z | z
        · rw [z]; exact Nat.le_add_right _ _
        · rw [z]; exact Nat.le_add_right _ _
        · rw [z]; exact Nat.le_add_right _ _
        · rw [z]; exact Nat.le_refl _
        · rw [z]; exact Nat.le_add_right _ _
      exact Inw.fpOk lee (Inw.hok.fresh lee)
theorem walk_zpB {K : PySem.W.Frag} {b1 b2 : Bool} {a1 a2 : Addr} {xs ys : List V} {n : Nat} (hn : n = min xs.length ys.length) : Walk (ItZ K b1 b2 a1 a2) n (fun H => SqB K H b1 a1 xs ∧ SqB K H b2 a2 ys) (YPair (fun i => xs[i]?) (fun i => ys[i]?)) := by
  subst hn
  refine ⟨fun i _ hi q => ?_, fun _ q => ⟨xs, ys, q.1, q.2, by omega, by omega, by omega⟩, fun i H v H' _ q y => ?_⟩
  · have h1 : i < xs.length := by omega
    have h2 : i < ys.length := by omega
    exact ⟨xs, ys, xs[i], ys[i], q.1, q.2, by simp [h1], by simp [h2]⟩
  · obtain ⟨T, x, z, h1, h2, h3, h4, h5⟩ := y
    exact ⟨T, x, z, h1, h2, h3, h4 xs q.1, h5 ys q.2⟩
/-! ### by data -/
def seqB (b : Bool) : D → Option (List D) := if b = true then seqL else seqT
theorem Res.seqI {K : PySem.W.Frag} {H : Hp} {k : Kd} {b : Bool} {d : D} {xs : List D} {v : V} (h : Res K H k d v) (e : seqB b d = some xs) : ∃ a vs, v = .ref a ∧ (∀ H', Same H H' → SqB K H' b a vs) ∧ ItemsR K H (itemK k) vs xs := by
  cases b with
  | true =>
    obtain rfl := seqL_some e
    obtain ⟨a, vs, h1, h2, h3⟩ := h.lstI
    exact ⟨a, vs, h1, fun H' s => .inl (same_rd s h2), h3⟩
  | false =>
    obtain rfl := seqT_some e
    obtain ⟨a, vs, h1, h2, h3⟩ := h.tupI
    exact ⟨a, vs, h1, fun H' s => .inl (same_rd s h2), h3⟩
section
variable {X : Cx} {c : Ct} {U Un UL : List Nat}
def enB (b : Bool) : List D → Option (List D)
  | [d] => (seqB b d).map enumD
  | _ => none
def zpB (b1 b2 : Bool) : List D → Option (List D)
  | [d, e] => (seqB b1 d).bind fun xs => (seqB b2 e).map fun ys => zipD xs ys
  | _ => none
theorem fi_enum (b : Bool) {k : Kd} {e : Expr} {F : SE → M (List D)} {p pos tpos : Pos} {elts : List Expr} {kk : Nat} (hm : X.mg "enumerate" = none) (h : FA X c U [e] [k] F) (gok : Gl X "enumerate" := by rfl) (hs : starEach [e] X.env = [(false, eval e X.env)] := by rfl) :
    FI X c U (itemK k) (.Tuple elts kk tpos) (.Call (.Name "enumerate" p) [e] [] pos) (iA (enB b) F) := by
  obtain ⟨t, p, r⟩ := h
  refine ⟨_, pi_enumB b gok hm p hs, fun Z H0 O en σ H m R hE hG => r Z H0 O en σ H m _ hE (hG.bd.mono (fun ds m1 k1 vs H1 s1 d1 q1 => ?_) fun _ _ k => k)⟩
  obtain ⟨rs, xat, k2⟩ := k1.lft
  obtain ⟨v, d, rfl, rfl, q5⟩ := q1.one
  obtain ⟨xs, hx1, rfl⟩ := Option.map_eq_some_iff.mp xat
  obtain ⟨a, ws, rfl, h1, h2⟩ := q5.seqI hx1
  refine ⟨a, ws, rfl, h1 _ (hide_same _ _), k2 _ H1 s1 d1 ?_⟩
  rw [enumD_len, ← h2.1]
  refine walk_enB.mono (fun H' s => h1 H' s) fun i H x H' hi _ y => YD.pair (itemK_or k) y fun x z e1 e2 => ?_
  cases e1
  have hl : i < xs.length := by rw [← h2.1]; exact hi
  obtain ⟨w, e3, e4⟩ := h2.2 i _ (List.getElem?_eq_getElem hl)
  rw [e2] at e3
  cases e3
  exact ⟨_, _, enumD_get (List.getElem?_eq_getElem hl), res_int _, e4⟩
theorem fi_zip (b1 b2 : Bool) {k1 k2 : Kd} {e e2 : Expr} {F : SE → M (List D)} {p pos tpos : Pos} {elts : List Expr} {kk : Nat} (hm : X.mg "zip" = none) (h : FA X c U [e, e2] [k1, k2] F) (kpt : itemK k1 = itemK k2 := by rfl) (gok : Gl X "zip" := by rfl)
    (hs : starEach [e, e2] X.env = (false, eval e X.env) :: starEach [e2] X.env := by rfl) (hpl : (backTo pos (starEach [e2] X.env)).any (·.1) = false := by rfl) :
    FI X c U (itemK k1) (.Tuple elts kk tpos) (.Call (.Name "zip" p) [e, e2] [] pos) (iA (zpB b1 b2) F) := by
  obtain ⟨t, p, r⟩ := h
  refine ⟨_, pi_zipB b1 b2 gok hm p hs hpl, fun Z H0 O en σ H m R hE hG => r Z H0 O en σ H m _ hE (hG.bd.mono (fun ds m1 kk1 vs H1 s1 d1 q1 => ?_) fun _ _ k => k)⟩
  obtain ⟨rs, xat, kk2⟩ := kk1.lft
  obtain ⟨v, w, d, d', rfl, rfl, q5, q6⟩ := q1.two
  obtain ⟨xs, hx1, hx2⟩ := Option.bind_eq_some_iff.mp xat
  obtain ⟨ys, hx3, rfl⟩ := Option.map_eq_some_iff.mp hx2
  obtain ⟨a, ws, rfl, h1, h2⟩ := q5.seqI hx1
  obtain ⟨a', ws', rfl, h1', h2'⟩ := q6.seqI hx3
  refine ⟨a, a', ws, ws', rfl, h1 _ (hide_same _ _), h1' _ (hide_same _ _), kk2 _ H1 s1 d1 ?_⟩
  rw [zipD_len, ← h2.1, ← h2'.1]
  refine (walk_zpB rfl).mono (fun H' s => ⟨h1 H' s, h1' H' s⟩) fun i H x H' hi _ y => YD.pair (itemK_or k1) y fun x z e1 e2 => ?_
  have hl : i < xs.length := by rw [← h2.1]; omega
  have hl' : i < ys.length := by rw [← h2'.1]; omega
  obtain ⟨w, e3, e4⟩ := h2.2 i _ (List.getElem?_eq_getElem hl)
  obtain ⟨w', e3', e4'⟩ := h2'.2 i _ (List.getElem?_eq_getElem hl')
  rw [e1] at e3
  cases e3
  rw [e2] at e3'
  cases e3'
  rw [← kpt] at e4'
  exact ⟨_, _, zipD_get (List.getElem?_eq_getElem hl) (List.getElem?_eq_getElem hl'), e4, e4'⟩
end
end VL
/-! the value layer: targets, for, comprehensions, while -/
namespace VL
open PySem
open PySem.Spec
open L2

theorem Good.ex {α : Type} {o : Out α} {P : α → MS → Prop} (h : Good o P (fun _ _ => False)) : ∃ a m, P a m := by
  cases o with
  | ok a m => exact ⟨a, m, h⟩
  | exc c m => exact h.elim
  | bad => exact h.elim
/-- exceptions are not borne here -/
def nox {α : Type} (x : M α) : M α := fun m => match x m with
  | .ok a m' => .ok a m'
  | _ => .bad
theorem Good.nox {α : Type} {x : M α} {m : MS} {P : α → MS → Prop} {R : Exn → MS → Prop} (h : Good (VL.nox x m) P R) : Good (x m) P (fun _ _ => False) := by
  unfold VL.nox at h
  cases q : x m with
  | ok a m' => rw [q] at h; exact h
  | exc c m' => rw [q] at h; exact h
  | bad => rw [q] at h; exact h

/-! ### targets -/
section
variable {X : Cx} {c : Ct} {U Un UL : List Nat}
theorem wipe_set {σ : L2.St} {i : Nat} {x : Option V} : ∀ {vs : List Nat}, i ∈ vs → wipe (σ.set i x) vs = wipe σ vs
  | [], h => by cases h
  | v :: vs, h => by
    unfold wipe
    by_cases q : i ∈ vs
    · rw [wipe_set q]
    · have e : i = v := by
        rcases List.mem_cons.mp h with e | e
        · exact e
        · exact absurd e q
      subst e
      have sub : ∀ {ws : List Nat}, i ∉ ws → wipe (σ.set i x) ws = (wipe σ ws).set i x := by
        intro ws
        induction ws with
        | nil => intro _; rfl
        | cons w ws ih =>
          intro hn
          unfold wipe
          rw [ih fun t => hn (List.mem_cons_of_mem _ t)]
          rw [List.set_comm _ _ (fun t => hn (by rw [t]; exact List.mem_cons_self))]
      rw [sub q, List.set_set]
theorem wipe_wipe {σ : L2.St} {vs : List Nat} : wipe (wipe σ vs) vs = wipe σ vs := by
  have gen : ∀ (ws : List Nat), (∀ i ∈ ws, i ∈ vs) → wipe (wipe σ ws) vs = wipe σ vs := by
    intro ws
    induction ws with
    | nil => intro _; rfl
    | cons w ws ih =>
      intro h
      show wipe ((wipe σ ws).set w none) vs = _
      rw [wipe_set (h w List.mem_cons_self)]
      exact ih fun i hi => h i (List.mem_cons_of_mem _ hi)
  exact gen vs fun _ h => h
/-- a target's reading, in its widest form -/
def tG (X : Cx) (c : Ct) (U : List Nat) (k : Kd) (is : List Nat) (G : D → SE → M SE) : TG := fun v σ H Q =>
  ∃ Z H0 O en m d, EnvOk X.K c.W c.ms c.dk Z H0 U O en σ H m ∧ Res X.K (hide (ZO Z O) H) k d v ∧
    Good (G d en m) (fun en' m' => ∀ σ' H', SameW c.W H H' → (∀ vs, (∀ i ∈ is, i ∈ vs) → wipe σ' vs = wipe σ vs) → EnvOk X.K c.W c.ms c.dk Z H0 U O en' σ' H' m' → Q σ' H') (fun _ _ => True)
def FG (X : Cx) (c : Ct) (U : List Nat) (k : Kd) (is : List Nat) (tg : Expr) (G : D → SE → M SE) : Prop := PG X tg (tG X c U k is G)
def tGs (X : Cx) (c : Ct) (U : List Nat) (k : Kd) (is : List Nat) (G : List D → SE → M SE) : TGs := fun vs σ H Q =>
  ∃ Z H0 O en m ds, EnvOk X.K c.W c.ms c.dk Z H0 U O en σ H m ∧ ItemsR X.K (hide (ZO Z O) H) k vs ds ∧
    Good (G ds en m) (fun en' m' => ∀ σ' H', SameW c.W H H' → (∀ vs, (∀ i ∈ is, i ∈ vs) → wipe σ' vs = wipe σ vs) → EnvOk X.K c.W c.ms c.dk Z H0 U O en' σ' H' m' → Q σ' H') (fun _ _ => True)
def FGs (X : Cx) (c : Ct) (U : List Nat) (k : Kd) (is : List Nat) (tgs : List Expr) (G : List D → SE → M SE) : Prop := PGs X tgs (tGs X c U k is G)
theorem pg_weak {tg : Expr} {t u : TG} (h : PG X tg t) (w : ∀ v σ H Q, u v σ H Q → t v σ H Q) : PG X tg u := ⟨fun pins s σ H v x Q I r q => h.run pins s σ H v x Q I r (w v σ H Q q)⟩
theorem pgs_weak {tg : List Expr} {t u : TGs} (h : PGs X tg t) (w : ∀ v σ H Q, u v σ H Q → t v σ H Q) : PGs X tg u := ⟨fun pins s σ H v x Q I r q => h.run pins s σ H v x Q I r (w v σ H Q q)⟩
def gNm (i : Nat) : D → SE → M SE := fun d en => pure (en.set i (some d))
theorem fg_nm (i : Nat) {k : Kd} {x : Str} {pos : Pos} (hN : X.N.Nodup) (hk : c.dk i = k := by rfl) (hU : i ∉ U := by decide) (hm : i ∉ c.ms := by (try dsimp only); decide) (hi : X.N[i]? = some x := by rfl)
    (hx : Loc X.env.scope x := by first | exact Or.inl rfl | exact Or.inr rfl) (hf : X.fn x = true ∨ X.env.scope.names.lookup x = some .local := by first | exact .inl rfl | exact .inr rfl) : FG X c U k [i] (.Name x pos) (gNm i) := by
  refine pg_weak (pg_name hN hi hx hf) fun v σ H Q h => ?_
  obtain ⟨Z, H0, O, en, m, d, hE, hr, hG⟩ := h
  subst hk
  exact hG _ H (SameW.refl _ _) (fun vs hv => wipe_set (hv i List.mem_cons_self)) (hE.put' hU hm hr)
def gN0 : List D → SE → M SE := fun ds en => match ds with
  | [] => pure en
  | _ => M.no
def gC (G : D → SE → M SE) (Gs : List D → SE → M SE) : List D → SE → M SE := fun ds en => match ds with
  | d :: ds => do
    let e ← G d en
    Gs ds e
  | [] => M.no
theorem fg_nil {k : Kd} : FGs X c U k [] [] gN0 := by
  refine pgs_weak pgs_nil fun vs σ H Q h => ?_
  obtain ⟨Z, H0, O, en, m, ds, hE, hr, hG⟩ := h
  cases ds with
  | nil =>
    have e : vs = [] := List.eq_nil_of_length_eq_zero hr.1
    exact ⟨e, hG σ H (SameW.refl _ _) (fun _ _ => rfl) hE⟩
  | cons d ds => exact hG.elim
theorem fg_cons {k : Kd} {is js : List Nat} {e : Expr} {es : List Expr} {G : D → SE → M SE} {Gs : List D → SE → M SE} (h1 : FG X c U k is e G) (h2 : FGs X c U k js es Gs)
    (hs : (assignEach (e :: es) X.env).map (·.2) = assign e X.env :: (assignEach es X.env).map (·.2) := by rfl) : FGs X c U k (is ++ js) (e :: es) (gC G Gs) := by
  refine pgs_weak (pgs_cons h1 h2 hs) fun vs σ H Q h => ?_
  obtain ⟨Z, H0, O, en, m, ds, hE, hr, hG⟩ := h
  cases ds with
  | nil => exact hG.elim
  | cons d ds =>
    cases vs with
    | nil => cases hr.1
    | cons v vs =>
      have r0 : Res X.K (hide (ZO Z O) H) k d v := by
        obtain ⟨w, e1, e2⟩ := hr.2 0 d rfl
        cases e1
        exact e2
      refine ⟨v, vs, rfl, Z, H0, O, en, m, d, hE, r0, hG.bd.mono (fun e1 m1 k1 σ1 H1 s1 w1 E1 => ?_) fun _ _ _ => trivial⟩
      refine ⟨Z, H0, O, e1, m1, ds, E1, ⟨by simpa using hr.1, fun i d' hd => ?_⟩, Good.mono k1 (fun e2 m2 k2 σ2 H2 s2 w2 E2 => k2 σ2 H2 (s1.trans s2) (fun vs hv => ?_) E2) fun _ _ _ => trivial⟩
      · obtain ⟨w, q1, q2⟩ := hr.2 (i + 1) d' hd
        exact ⟨w, q1, q2.mono (s1.hide hE.wzo)⟩
      · rw [w2 vs fun i hi => hv i (List.mem_append_right _ hi), w1 vs fun i hi => hv i (List.mem_append_left _ hi)]
/-- a, b, .. = a tuple -/
def gTp (n : Nat) (Gs : List D → SE → M SE) : D → SE → M SE := fun d en => do
  let ds ← lft (seqT d)
  if ds.length = n then Gs ds en else M.no
theorem fg_tup {k : Kd} {is : List Nat} {es : List Expr} {kk : Nat} {pos : Pos} {n : Nat} {Gs : List D → SE → M SE} (hc : X.calm = true) (h : FGs X c U (itemK k) is es Gs) (hn : (assignEach es X.env).length = n := by rfl) (hst : (assignEach es X.env).findIdx? (·.1) = none := by rfl) : FG X c U k is (.Tuple es kk pos) (gTp n Gs) := by
  refine pg_weak (pg_tup hc h hn hst) fun v σ H Q hh => ?_
  obtain ⟨Z, H0, O, en, m, d, hE, hr, hG⟩ := hh
  obtain ⟨ds, hd, k1⟩ := hG.bd.lft
  obtain rfl := seqT_some hd
  obtain ⟨a, vs, rfl, h1, h2⟩ := hr.tupI
  by_cases hl : ds.length = n
  · have k1 : Good ((if ds.length = n then Gs ds en else M.no : M SE) m) _ _ := k1
    rw [if_pos hl] at k1
    exact ⟨a, vs, rfl, .inl (same_rd (hide_same _ _) h1), h2.1.trans hl, Z, H0, O, en, m, ds, hE, h2, k1⟩
  · have k1 : Good ((if ds.length = n then Gs ds en else M.no : M SE) m) _ _ := k1
    rw [if_neg hl] at k1
    exact k1.elim
/-- target = value -/
def sAsg (G : D → SE → M SE) (F : SE → M D) : SE → M Ctl := fun en => do
  let d ← F en
  let e ← G d en
  pure (.nx e)
theorem Good.bdT {α β : Type} {x : M α} {f : α → M β} {m : MS} {P : β → MS → Prop} {R : Exn → MS → Prop} (h : Good ((x >>= f) m) P R) : Good (x m) (fun a m' => Good (f a m') P R) (fun _ _ => True) := h.bd.mono (fun _ _ k => k) fun _ _ _ => trivial
theorem fs_asg {k : Kd} {is : List Nat} {tg e : Expr} {G : D → SE → M SE} {F : SE → M D} {pos : Pos} (h : FR X c U k e F) (hg : FG X c U k is tg G) (hs : swapsWithSole [tg] e pos.line X.env = pure false := by rfl) (hw : swappedStores [tg] e X.env = pure none := by rfl)
    (h1 : (assignEach [tg] X.env).map (·.2) = [assign tg X.env] := by rfl) : FS X c UL U (.Assign [tg] e pos) (sAsg G F) U := by
  obtain ⟨t, p, r⟩ := h
  refine ⟨_, ps_asg p hg hs hw h1, fun Z H0 O en σ H m Ds hE hG => r Z H0 O en σ H m _ hE (hG.bd.mono (fun d m1 k1 v H1 s1 d1 q1 => ?_) fun _ _ k => (ExK.out hE k))⟩
  refine ⟨Z, H0, O, en, m1, d, hE.step s1 d1, q1, k1.bdT.mono (fun e1 m2 k2 σ2 H2 s2 w2 E2 => ?_) fun _ _ _ => trivial⟩
  exact k2 O σ2 H2 E2

/-! ### for -/
def forL (G : D → SE → M SE) (B : SE → M Ctl) : List D → SE → M Ctl
  | [], e => pure (.nx e)
  | d :: ds, e => do
    let e1 ← G d e
    let k ← B e1
    match k with
    | .nx e' => forL G B ds e'
    | .ct e' => forL G B ds e'
    | .bk e' => pure (.nx e')
    | .rt d => pure (.rt d)
def sFor (It : SE → M (List D)) (G : D → SE → M SE) (B : SE → M Ctl) : SE → M Ctl := fun en => do
  let ds ← It en
  forL G B ds en
theorem fs_for {k : Kd} {is : List Nat} {tg it : Expr} {body : List Stmt} {It : SE → M (List D)} {G : D → SE → M SE} {B : SE → M Ctl} {pos : Pos} (hp : PassesOwn (model X.prog X.w) X.A X.env X.xe) (hc : X.calm = true) (hi : FI X c U k tg it It) (hg : FG X c U k is tg G) (hb : FSs X c U U body B U)
    (hs : ∀ x, foldedSetIterable it X.env x = pure x := by intro _; rfl) : FS X c UL U (.For tg it body [] pos) (sFor It G B) U := by
  obtain ⟨wi, pi, ri⟩ := hi
  obtain ⟨tb, pb, rb⟩ := hb
  refine ⟨_, ps_for hp hc pi hg pb hs, fun Z H0 O en σ H m Ds hE hG => ri Z H0 O en σ H m _ hE (hG.bd.mono (fun ds m1 k1 J H1 s1 d1 wk => ?_) fun _ _ k => (ExK.out hE k))⟩
  have E1 := hE.step s1 d1
  have dn := E1.down_same
  refine for_it wk (fun i σ' H' => ∃ O' e' m', EnvOk X.K c.W c.ms c.dk Z (hide (O.map (·.2)) H1) U O' e' σ' H' m' ∧ Good (forL G B (ds.drop i) e' m') (fun k m'' => KOk X c Z H0 UL U Ds m'' k) (fun x m'' => ∀ σ', ExK X c Z σ' H0 x m'')) ⟨O, en, m1, E1.down, by rw [List.drop_zero]; exact k1⟩ (fun i σ' H' _ ⟨O', e', m', E, _⟩ => Same.trans (E.seen (Z1 := Z)) (hide_same _ _)) (fun i x σ' H' H'' hi ⟨O', e', m', E, hg⟩ y => ?_) (fun σ' H' ⟨O', e', m', E, hg⟩ => ?_)
  · obtain ⟨sy, d, hd, hr⟩ := y
    have e : ds.drop i = d :: ds.drop (i + 1) := by
      rw [List.drop_eq_getElem_cons hi]
      rw [List.getElem?_eq_getElem hi] at hd
      cases hd
      rfl
    rw [e] at hg
    have Eg := E.grow sy
    refine ⟨Z, _, O', e', m', d, Eg, hr _ E.zt (E.seen (Z1 := Z)), (show Good ((G d e' >>= fun e1 => B e1 >>= fun k => _) m') _ _ from hg).bdT.mono (fun e1 m2 k2 σ2 H2 s2 w2 E2 => ?_) fun _ _ _ => trivial⟩
    refine rb Z _ O' e1 σ2 H2 m2 _ E2 (k2.bd.mono (fun k3 m3 k4 => ?_) fun _ _ k σ' => ExK.step (k σ') dn)
    cases k3 with
    | nx e3 => exact fun O3 σ3 H3 E3 => ⟨O3, e3, m3, E3, k4⟩
    | ct e3 => exact fun O3 σ3 H3 E3 => ⟨O3, e3, m3, E3, k4⟩
    | bk e3 => exact fun O3 σ3 H3 E3 => (show ∀ O' σ' H', EnvOk X.K c.W c.ms c.dk Z H0 U O' e3 σ' H' m3 → Ds.nx σ' H' from k4) O3 σ3 H3 (E3.up dn E1.w0)
    | rt d3 => exact fun v H3 s3 d4 q => (show ∀ v H', SameW c.W H0 H' → DrawOk c.W H' m3 → Res X.K (hide Z H') c.rd d3 v → Ds.rt v H' from k4) v H3 (dn.trans s3) d4 q
  · rw [List.drop_eq_nil_of_le (Nat.le_refl _)] at hg
    exact (show ∀ O' σ' H'', EnvOk X.K c.W c.ms c.dk Z H0 U O' e' σ' H'' m' → Ds.nx σ' H'' from hg) O' σ' H' (E.up dn E1.w0)
end
end VL
/-! the value layer: comprehensions -/
namespace VL
open PySem
open PySem.Spec
open L2

section
variable {X : Cx} {c : Ct} {U Un UL : List Nat}
/-- readings in their widest form -/
def tE (X : Cx) (c : Ct) (U : List Nat) (k : Kd) (F : SE → M D) : TE := fun σ H Q => ∃ Z H0 O en m, EnvOk X.K c.W c.ms c.dk Z H0 U O en σ H m ∧
    Good (F en m) (fun d m' => ∀ v H', SameW c.W H H' → DrawOk c.W H' m' → Res X.K (hide (ZO Z O) H') k d v → Q v H') (fun _ _ => False)
def tT (X : Cx) (c : Ct) (U : List Nat) (F : SE → M Bool) : TT := fun σ H Q => ∃ Z H0 O en m, EnvOk X.K c.W c.ms c.dk Z H0 U O en σ H m ∧
    Good (F en m) (fun b m' => ∀ H', SameW c.W H H' → DrawOk c.W H' m' → Q b H') (fun _ _ => False)
theorem FR.pe {k : Kd} {e : Expr} {F : SE → M D} (h : FR X c U k e F) : PE X e (tE X c U k F) := by
  obtain ⟨t, p, r⟩ := h
  refine ⟨fun pins s σ H Q I q => p.run pins s σ H Q I ?_⟩
  obtain ⟨Z, H0, O, en, m, hE, hG⟩ := q
  exact r Z H0 O en σ H m Q hE (hG.mono (fun _ _ k => k) fun _ _ k => k.elim)
theorem FT.pt {e : Expr} {F : SE → M Bool} (h : FT X c U e F) : PT X e (tT X c U F) := by
  obtain ⟨t, p, r⟩ := h
  refine ⟨fun pins s σ H Q I q => p.run pins s σ H Q I ?_⟩
  obtain ⟨Z, H0, O, en, m, hE, hG⟩ := q
  exact r Z H0 O en σ H m Q hE (hG.mono (fun _ _ k => k) fun _ _ k => k.elim)
/-- a clause's tests -/
def FTs (X : Cx) (c : Ct) (U : List Nat) (es : List Expr) (F : SE → M Bool) : Prop := PTs X es (tT X c U F)
def tYs : SE → M Bool := fun _ => pure true
theorem fts_nil : FTs X c U [] tYs := ⟨fun pins s σ H Q I q => by
  obtain ⟨Z, H0, O, en, m, hE, hG⟩ := q
  exact pts_nil.run pins s σ H Q I (hG H (SameW.refl _ _) hE.dr)⟩
theorem fts_one {e : Expr} {F : SE → M Bool} (h : FT X c U e F) : FTs X c U [e] F := pts_one h.pt
/-- what a list holds -/
def ItK (K : PySem.W.Frag) (H : Hp) (k : Kd) (vs : List V) (ds : List D) : Prop := match k with
  | .pl => DzAll K H vs ds
  | _ => DqAll K H vs ds
theorem ItK.len {K : PySem.W.Frag} {H : Hp} {k : Kd} {vs : List V} {ds : List D} (h : ItK K H k vs ds) : vs.length = ds.length := by
  cases k <;> first | exact DqAll.length h | exact DqAll.length (DzAll.dq h)
theorem ItK.mono {K : PySem.W.Frag} {H H' : Hp} (s : Same H H') {k : Kd} {vs : List V} {ds : List D} (h : ItK K H k vs ds) : ItK K H' k vs ds := by
  cases k <;> first | exact DqAll.mono s h | exact DzAll.mono s h
theorem ItK.snoc {K : PySem.W.Frag} {H : Hp} {k : Kd} (hk : toDat k = true) {vs : List V} {ds : List D} {v : V} {d : D} (h : ItK K H k vs ds) (r : Res K H k d v) : ItK K H k (vs ++ [v]) (ds ++ [d]) := by
  cases k with
  | dat => exact DqAll.append h (DqAll.one r)
  | dic => cases hk
  | dit => cases hk
  | nd => exact DqAll.append h (DqAll.one r.1)
  | pl => exact DzAll.append h (.cons r .nil)
theorem ItK.nil {K : PySem.W.Frag} {H : Hp} {k : Kd} : ItK K H k [] [] := by
  cases k <;> first | exact DqAll.nil | exact DzAll.nil
def lcC : Option D → List D → List D
  | some v, r => v :: r
  | none, r => r
/-- a comprehension's turns -/
def lcL (f : D → M (Option D)) : List D → M (List D)
  | [] => pure []
  | d :: ds => do
    let o ← f d
    let r ← lcL f ds
    pure (lcC o r)
def lcStep (G : D → SE → M SE) (T : SE → M Bool) (E : SE → M D) (en : SE) : D → M (Option D) := fun d => do
  let e1 ← G d en
  let b ← T e1
  if b = true then do
    let v ← E e1
    pure (some v)
  else pure none
def lcF (It : SE → M (List D)) (G : D → SE → M SE) (T : SE → M Bool) (E : SE → M D) (vs : List Nat) : SE → M D := fun en => nox do
  let ds ← It en
  let rs ← lcL (lcStep G T E (wipeE en vs)) ds
  if rs.length ≤ lineN then pure (.list rs) else M.no
/-- a comprehension's reading -/
theorem lc_read {k ke : Kd} (hke : toDat ke = true) {is : List Nat} {It : SE → M (List D)} {G : D → SE → M SE} {T : SE → M Bool} {El : SE → M D} {vs : List Nat} {wi : TI}
    (ri : ∀ Z H0 O en σ H m R, EnvOk X.K c.W c.ms c.dk Z H0 U O en σ H m → Good (It en m) (fun ds m' => ∀ J H1, SameW c.W H H1 → DrawOk c.W H1 m' → Walk J ds.length (fun H' => Same (hide (ZO Z O) H1) H') (YD X.K (ZO Z O) H1 k ds) → R J H1) (fun x m' => ExK X c (ZO Z O) σ H x m') → wi σ H R)
    (his : ∀ i ∈ is, i ∈ vs) (hU : ∀ i ∈ vs, i ∉ U) (hms : ∀ i ∈ vs, i ∉ c.ms) {Z : List Addr} {H0 : Hp} {O : List (Nat × Addr)} {en : SE} {σ : L2.St} {H : Hp} {m : MS} {Q : VK} {R : Exn → MS → Prop} (hE : EnvOk X.K c.W c.ms c.dk Z H0 U O en σ H m)
    (hG : Good (lcF It G T El vs en m) (fun d m' => ∀ a ws xs H', d = .list xs → SameW c.W H H' → DrawOk c.W H' m' → H a = none → H' a = some (.lst ws) → ItK X.K (hide (a :: ZO Z O) H') ke ws xs → Q (.ref a) H') R) :
    tLc wi (tG X c U k is G) (tT X c U T) (tE X c U ke El) vs σ H Q := by
  refine ri Z H0 O en σ H m _ hE (hG.nox.bd.mono (fun ds m1 k1 J H1 s1 d1 wk a na => ?_) fun _ _ k => k.elim)
  have nH : H a = none := none_step s1 d1 na
  have n0 : H0 a = none := hE.none0 nH
  have su : SameW c.W H1 (upd H1 a (.lst [])) := .of (same_new na _)
  have hw := hE.wzo
  have nw := (hE.step s1 d1).nw0 n0
  have E0 : EnvOk X.K c.W c.ms c.dk (a :: Z) H0 U O en σ (upd H1 a (.lst [])) m1 := hE.temp (s1.trans su) (d1.same (same_new na _)) nH (by rw [upd_same]; exact fun x => nomatch x)
  have k1 : Good ((lcL (lcStep G T El (wipeE en vs)) ds >>= fun rs => (if rs.length ≤ lineN then pure (.list rs) else M.no : M D)) m1) _ _ := k1
  refine lc_it wk (fun i H' => ∃ m' ws acc, EnvOk X.K c.W c.ms c.dk (a :: Z) H0 U O en σ H' m' ∧ SameW c.W H1 H' ∧ H' a = some (.lst ws) ∧ ItK X.K (hide (a :: ZO Z O) H') ke ws acc ∧
    Good (lcL (lcStep G T El (wipeE en vs)) (ds.drop i) m') (fun rs m'' => Good ((if (acc ++ rs).length ≤ lineN then pure (.list (acc ++ rs)) else M.no : M D) m'') (fun d m' => ∀ a ws xs H', d = .list xs → SameW c.W H H' → DrawOk c.W H' m' → H a = none → H' a = some (.lst ws) → ItK X.K (hide (a :: ZO Z O) H') ke ws xs → Q (.ref a) H') (fun _ _ => False)) (fun _ _ => False))
    ⟨m1, [], [], E0, su, upd_same, .nil, by rw [List.drop_zero]; exact k1.bd⟩ (fun i H' _ ⟨m', ws, acc, E, s, _⟩ => Same.trans (s.hide hw) (hide_same _ _)) (fun i x H3 H4 hi ⟨m', ws, acc, E, s, ha, hI, hg⟩ y => ?_) (fun H' ⟨m', ws, acc, E, s, ha, hI, hg⟩ => ?_)
  · obtain ⟨sy, d, hd, hr⟩ := y
    have e : ds.drop i = d :: ds.drop (i + 1) := by
      rw [List.drop_eq_getElem_cons hi]
      rw [List.getElem?_eq_getElem hi] at hd
      cases hd
      rfl
    rw [e] at hg
    have Eg := (E.grow sy).wiped hU hms
    refine ⟨a :: Z, H0, O, wipeE en vs, m', d, Eg, hr _ E.zt (hide_temp s hw na), ?_⟩
    have hg : Good (((lcStep G T El (wipeE en vs) d) >>= fun o => lcL (lcStep G T El (wipeE en vs)) (ds.drop (i + 1)) >>= fun r => pure (lcC o r)) m') _ _ := hg
    refine (show Good ((G d (wipeE en vs) >>= fun e1 => T e1 >>= fun b => (if b = true then (El e1 >>= fun v => pure (some v)) else pure none : M (Option D))) m') _ _ from hg.bd).bdT.mono (fun e1 m2 k2 σ2 H5 s5 w5 E5 => ?_) fun _ _ _ => trivial
    refine ⟨(w5 vs his).trans wipe_wipe, a :: Z, H0, O, e1, m2, E5, k2.bd.mono (fun b m3 k3 H6 s6 d6 => ?_) fun _ _ k => k⟩
    have s36 : SameW c.W H3 H6 := (SameW.of sy).trans (s5.trans s6)
    have E6 : EnvOk X.K c.W c.ms c.dk (a :: Z) H0 U O en σ H6 m3 := E.step s36 d6
    have na0 : ∀ w, c.W = some w → a ≠ w.am ∧ a ≠ w.gA := fun w q => ⟨(nw w q).1, (nw w q).2.2⟩
    have ha6 : H6 a = some (.lst ws) := s36 a _ na0 ha
    cases b with
    | false =>
      have k3 : Good ((pure none : M (Option D)) m3) _ _ := k3
      refine ⟨m3, ws, acc, E6, s.trans s36, ha6, hI.mono (s36.hide E.wzo), ?_⟩
      have k5 := Good.bd (show Good ((lcL (lcStep G T El (wipeE en vs)) (ds.drop (i + 1)) >>= fun r => pure (lcC none r)) m3) _ _ from k3)
      exact k5
    | true =>
      refine ⟨a :: Z, H0, O, e1, m3, E5.step s6 d6, Good.mono (Good.bd k3) (fun v m4 k4 w H7 s7 d7 q7 => ?_) fun _ _ k => k⟩
      have s37 : SameW c.W H3 H7 := s36.trans s7
      have E7 : EnvOk X.K c.W c.ms c.dk (a :: Z) H0 U O en σ H7 m4 := E.step s37 d7
      have ha7 : H7 a = some (.lst ws) := s37 a _ na0 ha
      have k4 : Good (lcL (lcStep G T El (wipeE en vs)) (ds.drop (i + 1)) m4) _ _ := Good.bd (show Good ((lcL (lcStep G T El (wipeE en vs)) (ds.drop (i + 1)) >>= fun r => pure (v :: r)) m4) _ _ from k4)
      have hlen : acc.length < lineN := by
        obtain ⟨rs, m8, q8⟩ := Good.ex k4
        have q8 : Good ((if (acc ++ v :: rs).length ≤ lineN then pure (.list (acc ++ v :: rs)) else M.no : M D) m8) _ _ := q8
        by_cases hz : (acc ++ v :: rs).length ≤ lineN
        · rw [List.length_append, List.length_cons] at hz
          omega
        · rw [if_neg hz] at q8
          exact q8.elim
      refine ⟨ws, ha7, by rw [hI.len]; exact own_line hlen, m4, ws ++ [w], acc ++ [v], E7.turn n0, same_updW (s.trans s37) na, upd_same, ?_, ?_⟩
      · rw [hide_updZ List.mem_cons_self]
        exact ItK.snoc hke (hI.mono (s37.hide E.wzo)) q7
      · refine Good.mono k4 (fun rs m8 q8 => ?_) fun _ _ k => k
        rw [List.append_assoc]
        exact q8
  · rw [List.drop_eq_nil_of_le (Nat.le_refl _)] at hg
    have hg : Good ((if (acc ++ []).length ≤ lineN then pure (.list (acc ++ [])) else M.no : M D) m') _ _ := hg
    rw [List.append_nil] at hg
    by_cases hz : acc.length ≤ lineN
    · rw [if_pos hz] at hg
      exact hg a ws acc H' rfl (s1.trans s) E.dr nH ha hI
    · rw [if_neg hz] at hg
      exact hg.elim
theorem lcF_list {It : SE → M (List D)} {G : D → SE → M SE} {T : SE → M Bool} {E : SE → M D} {vs : List Nat} {en : SE} {m : MS} {P : D → MS → Prop} {R : Exn → MS → Prop} (h : Good (lcF It G T E vs en m) P R) : Good (lcF It G T E vs en m) (fun d m' => P d m' ∧ ∃ xs, d = .list xs) R := by
  unfold lcF at h ⊢
  unfold VL.nox at h ⊢
  revert h
  have key : ∀ d m', ((It en >>= fun ds => lcL (lcStep G T E (wipeE en vs)) ds >>= fun rs => (if rs.length ≤ lineN then pure (.list rs) else M.no : M D)) m) = .ok d m' → ∃ xs, d = .list xs := by
    intro d m' e
    have e : M.bd (It en) (fun ds => lcL (lcStep G T E (wipeE en vs)) ds >>= fun rs => (if rs.length ≤ lineN then pure (.list rs) else M.no : M D)) m = .ok d m' := e
    unfold M.bd at e
    cases q : It en m with
    | bad => rw [q] at e; cases e
    | exc x y => rw [q] at e; cases e
    | ok ds m1 =>
      rw [q] at e
      have e : M.bd (lcL (lcStep G T E (wipeE en vs)) ds) (fun rs => (if rs.length ≤ lineN then pure (.list rs) else M.no : M D)) m1 = .ok d m' := e
      unfold M.bd at e
      cases q2 : lcL (lcStep G T E (wipeE en vs)) ds m1 with
      | bad => rw [q2] at e; cases e
      | exc x y => rw [q2] at e; cases e
      | ok rs m2 =>
        rw [q2] at e
        have e : (if rs.length ≤ lineN then pure (.list rs) else M.no : M D) m2 = .ok d m' := e
        by_cases hz : rs.length ≤ lineN
        · rw [if_pos hz] at e
          cases e
          exact ⟨rs, rfl⟩
        · rw [if_neg hz] at e
          cases e
  cases q : ((It en >>= fun ds => lcL (lcStep G T E (wipeE en vs)) ds >>= fun rs => (if rs.length ≤ lineN then pure (.list rs) else M.no : M D)) m) with
  | ok d m' => exact fun h => ⟨h, key d m' q⟩
  | exc x y => exact fun h => h
  | bad => exact fun h => h
variable {k ke : Kd} {is : List Nat} {elt tg it : Expr} {ifs : List Expr} {scope : Scope} {own : List (Str × Nat)} {pos : Pos} {It : SE → M (List D)} {G : D → SE → M SE} {T : SE → M Bool} {El : SE → M D}
/-- [elt for tg in it if ..] of any kind of items: its reading -/
theorem fo_lc (own : List (Str × Nat)) (hc : X.calm = true) (hN : X.N.Nodup) (hi : FI X c U k tg it It)
    (hg : ∀ (s : Shared) (H : Hp) (C : Addr) (cl : List (Str × Addr)) (fp : List Addr), FG (X.blk s H scope (compEnvC scope cl C X.env) fp) c U k is tg G)
    (ht : ∀ (s : Shared) (H : Hp) (C : Addr) (cl : List (Str × Addr)) (fp : List Addr), FTs (X.blk s H scope (compEnvC scope cl C X.env) fp) c U ifs T)
    (he : ∀ (s : Shared) (H : Hp) (C : Addr) (cl : List (Str × Addr)) (fp : List Addr), FE (X.blk s H scope (compEnvC scope cl C X.env) fp) c U elt El)
    (ok : blkC X.N X.env.scope scope own = true := by rfl) (his : ∀ i ∈ is, i ∈ own.map (·.2) := by decide) (hU : ∀ i ∈ own.map (·.2), i ∉ U := by decide) (hms : ∀ i ∈ own.map (·.2), i ∉ c.ms := by (try dsimp only); decide)
    (hs : ∀ x, foldedSetIterable it X.env x = pure x := by intro _; rfl) : FO X c U .dat (.ListComp elt [⟨tg, it, ifs, 0⟩] scope pos) (lcF It G T El (own.map (·.2))) := by
  obtain ⟨wi, pi, ri⟩ := hi
  refine ⟨_, pe_lc (g := tG X c U k is G) (tt := tT X c U T) (te := tE X c U .dat El) hc hN pi (blkOk_by ok) hg ht (fun s H C cl fp => (he s H C cl fp).pe) hs, fun Z H0 O en σ H m Q hE hG => ?_⟩
  refine lc_read (ke := .dat) rfl ri his hU hms hE (hG.mono (fun d m' kk a ws xs H' e s d1 n1 h1 hI => ?_) fun _ _ k => k)
  subst e
  exact kk a _ H' s d1 n1 h1 (.lst xs ws hI) rfl
/-- .. of plainly known items -/
theorem fr_lcP (own : List (Str × Nat)) (hc : X.calm = true) (hN : X.N.Nodup) (hi : FI X c U k tg it It)
    (hg : ∀ (s : Shared) (H : Hp) (C : Addr) (cl : List (Str × Addr)) (fp : List Addr), FG (X.blk s H scope (compEnvC scope cl C X.env) fp) c U k is tg G)
    (ht : ∀ (s : Shared) (H : Hp) (C : Addr) (cl : List (Str × Addr)) (fp : List Addr), FTs (X.blk s H scope (compEnvC scope cl C X.env) fp) c U ifs T)
    (he : ∀ (s : Shared) (H : Hp) (C : Addr) (cl : List (Str × Addr)) (fp : List Addr), FR (X.blk s H scope (compEnvC scope cl C X.env) fp) c U .pl elt El)
    (ok : blkC X.N X.env.scope scope own = true := by rfl) (his : ∀ i ∈ is, i ∈ own.map (·.2) := by decide) (hU : ∀ i ∈ own.map (·.2), i ∉ U := by decide) (hms : ∀ i ∈ own.map (·.2), i ∉ c.ms := by (try dsimp only); decide)
    (hs : ∀ x, foldedSetIterable it X.env x = pure x := by intro _; rfl) : FR X c U .pl (.ListComp elt [⟨tg, it, ifs, 0⟩] scope pos) (lcF It G T El (own.map (·.2))) := by
  obtain ⟨wi, pi, ri⟩ := hi
  refine ⟨_, pe_lc (g := tG X c U k is G) (tt := tT X c U T) (te := tE X c U .pl El) hc hN pi (blkOk_by ok) hg ht (fun s H C cl fp => (he s H C cl fp).pe) hs, fun Z H0 O en σ H m Q hE hG => ?_⟩
  refine lc_read (ke := .pl) rfl ri his hU hms hE (hG.mono (fun d m' kk a ws xs H' e s d1 n1 h1 hI => ?_) fun _ _ k => k)
  subst e
  have na : a ∉ ZO Z O := fun z => hE.zt a z n1
  exact kk _ H' s d1 (Dz.lst (Rd.of (by rw [hide_ne na]; exact h1)) (DzAll.mono (hide_sub fun b hb => List.mem_cons_of_mem _ hb) hI))
/-- name = [..] on the name's line -/
theorem fs_setLc (i : Nat) {y : Str} {py spos : Pos} (own : List (Str × Nat)) (hc : X.calm = true) (hN : X.N.Nodup) (hi : FI X c U k tg it It)
    (hg : ∀ (s : Shared) (H : Hp) (C : Addr) (cl : List (Str × Addr)) (fp : List Addr), FG (X.blk s H scope (compEnvC scope cl C X.env) fp) c U k is tg G)
    (ht : ∀ (s : Shared) (H : Hp) (C : Addr) (cl : List (Str × Addr)) (fp : List Addr), FTs (X.blk s H scope (compEnvC scope cl C X.env) fp) c U ifs T)
    (he : ∀ (s : Shared) (H : Hp) (C : Addr) (cl : List (Str × Addr)) (fp : List Addr), FE (X.blk s H scope (compEnvC scope cl C X.env) fp) c U elt El)
    (hsw : swapsWith (.ListComp elt [⟨tg, it, ifs, 0⟩] scope pos) (some (.Name y py)) spos.line X.env = pure true)
    (hk : c.dk i = .dat := by rfl) (hUi : i ∉ U := by decide) (hmi : i ∉ c.ms := by (try dsimp only); decide) (hy : X.N[i]? = some y := by rfl) (hyl : X.env.scope.names.lookup y = some .local := by rfl)
    (ok : blkC X.N X.env.scope scope own = true := by rfl) (his : ∀ i ∈ is, i ∈ own.map (·.2) := by decide) (hU : ∀ i ∈ own.map (·.2), i ∉ U := by decide) (hms : ∀ i ∈ own.map (·.2), i ∉ c.ms := by (try dsimp only); decide)
    (hs : ∀ x, foldedSetIterable it X.env x = pure x := by intro _; rfl) : FS X c UL U (.Assign [.Name y py] (.ListComp elt [⟨tg, it, ifs, 0⟩] scope pos) spos) (sSetO i (lcF It G T El (own.map (·.2)))) (i :: U) := by
  obtain ⟨wi, pi, ri⟩ := hi
  refine ⟨_, ps_setLc (g := tG X c U k is G) (tt := tT X c U T) (te := tE X c U .dat El) hc hN hy hyl hsw pi (blkOk_by ok) hg ht (fun s H C cl fp => (he s H C cl fp).pe) hs, fun Z H0 O en σ H m Ds hE hG => ?_⟩
  refine lc_read (ke := .dat) (R := fun x m' => ExK X c (ZO Z O) σ H x m') rfl ri his hU hms hE (hG.bd.mono (fun d m' kk a ws xs H' e s d1 n1 h1 hI => ?_) fun _ _ k => (ExK.out hE k))
  subst e
  by_cases hl : i < en.length
  · have kk : Good ((if i < en.length then pure (.nx (en.set i (some (.list xs)))) else M.no : M Ctl) m') _ _ := kk
    rw [if_pos hl] at kk
    exact kk _ _ H' (hE.putO s d1 hUi hmi (by rw [← hE.len]; exact hl) n1 h1 (.lst xs ws hI) hk)
  · have kk : Good ((if i < en.length then pure (.nx (en.set i (some (.list xs)))) else M.no : M Ctl) m') _ _ := kk
    rw [if_neg hl] at kk
    exact kk.elim
theorem fs_setLcP (i : Nat) {y : Str} {py spos : Pos} (own : List (Str × Nat)) (hc : X.calm = true) (hN : X.N.Nodup) (hi : FI X c U k tg it It)
    (hg : ∀ (s : Shared) (H : Hp) (C : Addr) (cl : List (Str × Addr)) (fp : List Addr), FG (X.blk s H scope (compEnvC scope cl C X.env) fp) c U k is tg G)
    (ht : ∀ (s : Shared) (H : Hp) (C : Addr) (cl : List (Str × Addr)) (fp : List Addr), FTs (X.blk s H scope (compEnvC scope cl C X.env) fp) c U ifs T)
    (he : ∀ (s : Shared) (H : Hp) (C : Addr) (cl : List (Str × Addr)) (fp : List Addr), FR (X.blk s H scope (compEnvC scope cl C X.env) fp) c U .pl elt El)
    (hsw : swapsWith (.ListComp elt [⟨tg, it, ifs, 0⟩] scope pos) (some (.Name y py)) spos.line X.env = pure true)
    (hk : c.dk i = .pl := by rfl) (hUi : i ∉ U := by decide) (hmi : i ∉ c.ms := by (try dsimp only); decide) (hy : X.N[i]? = some y := by rfl) (hyl : X.env.scope.names.lookup y = some .local := by rfl)
    (ok : blkC X.N X.env.scope scope own = true := by rfl) (his : ∀ i ∈ is, i ∈ own.map (·.2) := by decide) (hU : ∀ i ∈ own.map (·.2), i ∉ U := by decide) (hms : ∀ i ∈ own.map (·.2), i ∉ c.ms := by (try dsimp only); decide)
    (hs : ∀ x, foldedSetIterable it X.env x = pure x := by intro _; rfl) : FS X c UL U (.Assign [.Name y py] (.ListComp elt [⟨tg, it, ifs, 0⟩] scope pos) spos) (sSet i (lcF It G T El (own.map (·.2)))) U := by
  obtain ⟨wi, pi, ri⟩ := hi
  refine ⟨_, ps_setLc (g := tG X c U k is G) (tt := tT X c U T) (te := tE X c U .pl El) hc hN hy hyl hsw pi (blkOk_by ok) hg ht (fun s H C cl fp => (he s H C cl fp).pe) hs, fun Z H0 O en σ H m Ds hE hG => ?_⟩
  refine lc_read (ke := .pl) (R := fun x m' => ExK X c (ZO Z O) σ H x m') rfl ri his hU hms hE (hG.bd.mono (fun d m' kk a ws xs H' e s d1 n1 h1 hI => ?_) fun _ _ k => (ExK.out hE k))
  subst e
  have na : a ∉ ZO Z O := fun z => hE.zt a z n1
  refine kk O _ H' ((hE.step s d1).put' hUi hmi ?_)
  rw [hk]
  exact Dz.lst (Rd.of (by rw [hide_ne na]; exact h1)) (DzAll.mono (hide_sub fun b hb => List.mem_cons_of_mem _ hb) hI)
end
end VL
/-! the value layer: defs, their promises, calls -/
namespace VL
open PySem
open PySem.Spec
open L2

/-! ### a def's promise, where no guard stands -/
structure FnV (P : Program) (w : World) (K : PySem.W.Frag) (mg : Str → Option Value) (base : Heap) (CX : CXT) (k : Nat) (f : Addr) (fd : FuncData) (ps : List Str) (sp : Sp) : Prop where
  lens : ∀ vs H Q E, sp vs H Q E → vs.length = ps.length
  runs : ∀ (A : Around) (outer : List Env) (s : Shared) (H : Hp) (args : Args) (us : List Value) (vs : List V) (Q : VK) (E : XK), A.guards = some [] → Room k A → Env0 P w K mg base A outer s H → BindsTo s fd args (ps.zip us) → Vals vs us → sp vs H Q E →
    codeAny (model P w) A (.call (.ref f) args) (CR CX outer P w H s Q E) s
theorem FnV.mono {P : Program} {w : World} {K : PySem.W.Frag} {mg : Str → Option Value} {base : Heap} {CX : CXT} {j k : Nat} {f : Addr} {fd : FuncData} {ps : List Str} {sp : Sp} (F : FnV P w K mg base CX j f fd ps sp) (h : j ≤ k) : FnV P w K mg base CX k f fd ps sp :=
  ⟨F.lens, fun A outer s H args us vs Q E hg hr => F.runs A outer s H args us vs Q E hg (hr.mono h)⟩
section
variable {X : Cx} {CX : CXT} {k : Nat} {f : Addr} {fd : FuncData} {ps : List Str} {sp : Sp} {E : XK} {x : Str} {p pos : Pos} {e : Expr} {es : List Expr} {t : TA}
theorem run_V {pins : List (Addr × Obj)} {σ : L2.St} {H : Hp} {s : Shared} {Q : VK} {us : List Value} {vs : List V} (F : FnV X.prog X.w X.K X.mg X.base CX k f fd ps sp) (hgd : X.A.guards = some []) (hr : Room k X.A) (hb : Binds X.K fd ps []) (hx : Passes CX X E)
    (I : Inv X pins σ H s) (r : Vals vs us) (h : sp vs H Q E) : wpAny (model X.prog X.w) X.A (call (.ref f) us) (EP X pins σ Q) X.xe s := by
  have hle : us.length = ps.length := r.length.symm.trans (F.lens _ _ _ _ h)
  have hbd : BindsTo s fd ⟨us, []⟩ (ps.zip us) := by
    have q := hb s us I.kIn (by rw [List.append_nil]; exact hle)
    rwa [List.append_nil] at q
  refine wpAny_call (codeAny_mono (F.runs X.A X.stack s H ⟨us, []⟩ us vs Q E hgd hr I.env0 hbd r h) fun res s' got => ?_)
  rcases res with ex | fl
  · exact hx pins σ H s _ s' I got
  · cases fl <;> first | exact I.after got | exact False.elim got
theorem pe_V (F : FnV X.prog X.w X.K X.mg X.base CX k f fd ps sp) (hgd : X.A.guards = some []) (hr : Room k X.A) (hg : Gl X x) (hm : X.mg x = some (.ref f)) (hk : PySem.W.keepIn X.K (.ref f) = true) (hb : Binds X.K fd ps []) (hx : Passes CX X E)
    (ha : PA X (e :: es) t) (hdb : (x == ("__debug__" : Str)) = false := by decide) (he : starEach (e :: es) X.env = (false, eval e X.env) :: starEach es X.env := by rfl) (hpl : (backTo pos (starEach es X.env)).any (·.1) = false := by rfl) :
    PE X (.Call (.Name x p) (e :: es) [] pos) (fun σ H Q => t σ H fun vs H1 => sp vs H1 Q E) := by
  refine ⟨fun pins s σ H Q I h => wpAny_Call_Name_kw (ld_glob I hg hm ?_ hdb)⟩
  exact PySem.W.callWith_K (h₀ := X.base) I.ok.mod.kin hk (thn (ha.run pos pins s σ H _ I h) fun us s1 ⟨vs, H1, I1, r, q⟩ => ⟨I1.kIn, run_V F hgd hr hb hx I1 r q⟩) he hpl
end
/-- a def of the text, by its body -/
theorem fnV_of {CX : CXT} {P : Program} {w : World} {K : PySem.W.Frag} {mg : Str → Option Value} {base : Heap} {x qual : Str} {st : Stmt} {f : Addr} {fd : FuncData} {N ps : List Str} {k : Nat} {sp : Sp} (F : Fun K x qual st f fd) (S : FnScope N ps (defScope st)) (lens : ∀ vs H Q E, sp vs H Q E → vs.length = ps.length)
    (body : ∀ (cdv : Value) (A : Around) (outer : List Env) (s : Shared) (H : Hp) (vs : List V) (Q : VK) (E : XK), A.guards = some [] → Room k (A.deeper (PyProof.Rows.envOfC qual (defScope st) s.heap.objs.size f cdv)) → sp vs H Q E →
      ∃ t, PSs (cxOf CX P w K mg base N qual (defScope st) f cdv A outer s H E) (defBody st) t ∧ t { nx := fun _ H' => Q .non H', rt := Q } (L2.start N vs) H) : FnV P w K mg base CX (k + 1) f fd ps sp := by
  obtain ⟨oc, od, kV, doc, pm, an, cdv, ct, osl, rfl, lk, hcd⟩ := F.ex
  refine ⟨lens, fun A outer s H args us vs Q E hgd hr e0 hb r hsp => ?_⟩
  have kin : K.In s.heap := e0.mod.kin.keeps fun b o q => (e0.bs b o q).1
  have nol : s.heap.NoLimit := e0.mod.nolimit.keeps fun b o q => (e0.bs b o q).1
  have kinds : ∀ y ∈ ps.zip us, (defScope st).names.lookup y.1 = some .local ∨ ((defScope st).names.lookup y.1 = some .cell ∧ ((cellsFrom (s.heap.objs.size + 1) (defScope st).names []).lookup y.1).isSome = true) := fun y hy => by
    rcases S.par y.1 (List.of_mem_zip (a := y.1) (b := y.2) hy).1 with q | q
    · exact .inl q
    · exact .inr ⟨q, PySem.W.cellsFrom_some _ _ _ (.inl q)⟩
  refine codeAny_call_function hr.depth (kin _ _ lk) rfl S.co S.gen rfl (PySem.W.codeRec_of kin hcd) (hb _ _ _ _ (wpAny_newFunctionEnv_cells S.kind kinds fun env he s1 ic => ?_))
  subst he
  refine ⟨nol.keeps ic.toInCall.keep, codeAny_func ?_⟩
  obtain ⟨t, pt, qt⟩ := body cdv A outer s H vs Q E hgd (hr.deeper _) hsp
  refine wpAny_mono (pt.run [] s1 (L2.start N vs) H _ (inv_start S hr.hd e0 (lens _ _ _ _ hsp) r ic) qt) (fun fl s' got => ?_) fun ex s' got => got
  cases fl with
  | brk => exact let ⟨_, _, _, no⟩ := got; no.elim
  | cont => exact let ⟨_, _, _, no⟩ := got; no.elim
  | next => exact let ⟨_, H', J, q⟩ := got; ⟨V.non, H', J.os, J.bare, J.base, J.hok, rfl, q⟩
  | ret u => exact let ⟨v, _, H', J, rv, q⟩ := got; ⟨v, H', J.os, J.bare, J.base, J.hok, rv, q⟩

/-! ### the promises by data -/
def ms0 : MS := ([], [], 0)
/-- nothing but the arguments is asked -/
def spP (K : PySem.W.Frag) (ks : List Kd) (kr : Kd) (F : List D → M D) : Sp := fun vs H Q E => ∃ Zs ds, (∀ z ∈ Zs, H z ≠ none) ∧ AllK K (hide Zs H) ks vs ds ∧
  Good (F ds ms0) (fun d _ => ∀ v H', Same H H' → Res K (hide Zs H') kr d v → Q v H') (fun _ _ => False)
/-- the first argument is the machine -/
def spM (K : PySem.W.Frag) (ks : List Kd) (kr : Kd) (F : List D → M D) : Sp := fun vs H Q E => ∃ w Zs ds m vs', vs = .ref w.am :: vs' ∧ WIn (some w) Zs ∧ (∀ z ∈ Zs, H z ≠ none) ∧ DrawOk (some w) H m ∧ AllK K (hide Zs H) ks vs' ds ∧
  Good (F ds m) (fun d m' => ∀ v H', SameW (some w) H H' → DrawOk (some w) H' m' → Res K (hide Zs H') kr d v → Q v H') (fun _ _ => False)
theorem spP_len {K : PySem.W.Frag} {ks : List Kd} {kr : Kd} {F : List D → M D} {n : Nat} (h : ks.length = n) : ∀ vs H Q E, spP K ks kr F vs H Q E → vs.length = n := fun vs H Q E ⟨_, _, _, q, _⟩ => q.len.1.trans h
theorem spM_len {K : PySem.W.Frag} {ks : List Kd} {kr : Kd} {F : List D → M D} {n : Nat} (h : ks.length + 1 = n) : ∀ vs H Q E, spM K ks kr F vs H Q E → vs.length = n := fun vs H Q E ⟨_, _, _, _, vs', e, _, _, _, q, _⟩ => by
  subst e
  rw [List.length_cons, q.len.1]
  exact h
/-- the machine stands still -/
def still {α : Type} (x : M α) : M α := fun m => match x ms0 with
  | .ok a _ => .ok a m
  | .exc e _ => .exc e m
  | .bad => .bad
theorem Good.still {α : Type} {x : M α} {m : MS} {P : α → MS → Prop} {R : Exn → MS → Prop} (h : Good (VL.still x m) P R) : Good (x ms0) (fun a _ => P a m) (fun e _ => R e m) := by
  unfold VL.still at h
  cases q : x ms0 with
  | ok a m' => rw [q] at h; exact h
  | exc c m' => rw [q] at h; exact h
  | bad => rw [q] at h; exact h
section
variable {X : Cx} {c : Ct} {U : List Nat} {k : Nat} {f : Addr} {fd : FuncData} {ps : List Str} {x : Str} {p pos : Pos} {e : Expr} {es : List Expr} {ks : List Kd} {kr : Kd} {Fn : List D → M D} {A : SE → M (List D)}
/-- f(..), no exception -/
def eCall (Fn : List D → M D) (A : SE → M (List D)) : SE → M D := fun en => do
  let ds ← A en
  still (nox (Fn ds))
theorem fr_call (F : FnV X.prog X.w X.K X.mg X.base CX0 k f fd ps (spP X.K ks kr Fn)) (hgd : X.A.guards = some []) (hr : Room k X.A) (hm : X.mg x = some (.ref f)) (hk : PySem.W.keepIn X.K (.ref f) = true) (hb : Binds X.K fd ps []) (ha : FA X c U (e :: es) ks A) (hg : Gl X x := by rfl)
    (hdb : (x == ("__debug__" : Str)) = false := by decide) (he : starEach (e :: es) X.env = (false, eval e X.env) :: starEach es X.env := by rfl) (hpl : (backTo pos (starEach es X.env)).any (·.1) = false := by rfl) : FR X c U kr (.Call (.Name x p) (e :: es) [] pos) (eCall Fn A) := by
  obtain ⟨t, pa, ra⟩ := ha
  refine ⟨_, pe_V F hgd hr hg hm hk hb pass0 pa hdb he hpl, fun Z H0 O en σ H m Q hE hG => ra Z H0 O en σ H m _ hE (hG.bd.mono (fun ds m1 k1 vs H1 s1 d1 q1 => ?_) fun _ _ k => k)⟩
  have E1 := hE.step s1 d1
  exact ⟨ZO Z O, ds, E1.zt, q1, (show Good (VL.nox (Fn ds) ms0) _ _ from k1.still).nox.mono (fun d m2 k2 v H2 s2 q2 => k2 v H2 (s1.trans (.of s2)) (d1.same s2) q2) fun _ _ k => k⟩
/-- the machine ahead of the arguments -/
theorem fr_callM (j : Nat) {y : Str} {py : Pos} {w : Wd} (F : FnV X.prog X.w X.K X.mg X.base CX0 k f fd ps (spM X.K ks kr Fn)) (hW : c.W = some w) (hgd : X.A.guards = some []) (hr : Room k X.A) (hm : X.mg x = some (.ref f)) (hk : PySem.W.keepIn X.K (.ref f) = true) (hb : Binds X.K fd ps []) (ha : FA X c U es ks A)
    (hj : j ∈ c.ms := by (try dsimp only); decide) (hN : X.N[j]? = some y := by rfl) (hv : Vis X.env.scope y := by first | exact Or.inl rfl | exact Or.inr (Or.inl rfl) | exact Or.inr (Or.inr rfl)) (hd : (y == ("__debug__" : Str)) = false := by decide) (hcd : (y == ("__classdict__" : Str)) = false := by decide) (hg : Gl X x := by rfl)
    (hdb : (x == ("__debug__" : Str)) = false := by decide) (he : starEach (.Name y py :: es) X.env = (false, eval (.Name y py) X.env) :: starEach es X.env := by rfl) (hpl : (backTo pos (starEach es X.env)).any (·.1) = false := by rfl) : FR X c U kr (.Call (.Name x p) (.Name y py :: es) [] pos) (fun en => do let ds ← A en; nox (Fn ds)) := by
  obtain ⟨t, pa, ra⟩ := ha
  refine ⟨_, pe_V F hgd hr hg hm hk hb pass0 (pa_cons (pe_var hN hv hd hcd) pa he) hdb he hpl, fun Z H0 O en σ H m Q hE hG => ⟨_, hE.dm w hW j hj, ra Z H0 O en σ H m _ hE (hG.bd.mono (fun ds m1 k1 vs H1 s1 d1 q1 => ?_) fun _ _ k => k)⟩⟩
  have E1 := hE.step s1 d1
  have hz := E1.wzo
  have d1' := d1
  rw [hW] at hz d1'
  refine ⟨w, ZO Z O, ds, m1, vs, rfl, hz, E1.zt, d1', q1, k1.nox.mono (fun d m2 k2 v H2 s2 d2 q2 => ?_) fun _ _ k => k⟩
  exact k2 v H2 (s1.trans (by rw [hW]; exact s2)) (by rw [hW]; exact d2) q2
end

/-! ### a def's body -/
/-- the slots at the entry -/
def env0 (n : Nat) (ds : List D) : SE := ds.map some ++ List.replicate (n - ds.length) none
def envM (n : Nat) (ds : List D) : SE := none :: (ds.map some ++ List.replicate (n - (ds.length + 1)) none)
/-- how a body ends -/
def endC : Ctl → M D
  | .rt d => pure d
  | .nx _ => pure .none
  | _ => M.no
def runB (S : SE → M Ctl) (en : SE) : M D := do
  let k ← S en
  endC k
theorem AllK.get {K : PySem.W.Frag} {H : Hp} : ∀ {ks : List Kd} {vs : List V} {ds : List D} {i : Nat} {d : D}, AllK K H ks vs ds → ds[i]? = some d → ∃ k v, ks[i]? = some k ∧ vs[i]? = some v ∧ Res K H k d v
  | [], [], [], _, _, _, e => by simp at e
  | k :: ks, v :: vs, d :: ds, 0, d', h, e => by
    simp at e
    subst e
    exact ⟨k, v, rfl, rfl, h.1⟩
  | k :: ks, v :: vs, d :: ds, i + 1, d', h, e => by
    obtain ⟨k', v', h1, h2, h3⟩ := AllK.get (i := i) h.2 (by simpa using e)
    exact ⟨k', v', by simpa using h1, by simpa using h2, h3⟩
  | [], _ :: _, _, _, _, h, _ => by cases h
  | [], [], _ :: _, _, _, h, _ => by cases h
  | _ :: _, [], _, _, _, h, _ => by cases h
  | _ :: _, _ :: _, [], _, _, h, _ => by cases h
theorem start_get {N : List Str} {vs : List V} {i : Nat} {v : V} (h : vs[i]? = some v) : (L2.start N vs)[i]? = some (some v) := by
  have hi := (List.getElem?_eq_some_iff.mp h).1
  unfold L2.start
  rw [List.getElem?_append_left (by simpa using hi), List.getElem?_map, h]
  rfl
theorem env0_get {n : Nat} {ds : List D} {i : Nat} {d : D} (h : (env0 n ds)[i]? = some (some d)) : ds[i]? = some d := by
  unfold env0 at h
  by_cases hi : i < ds.length
  · rw [List.getElem?_append_left (by simpa using hi), List.getElem?_map] at h
    cases q : ds[i]? with
    | none => rw [q] at h; cases h
    | some d' => rw [q] at h; cases h; rfl
  · rw [List.getElem?_append_right (by simpa using hi), List.getElem?_replicate] at h
    split at h <;> cases h
section
variable {P : Program} {w : World} {K : PySem.W.Frag} {mg : Str → Option Value} {base : Heap} {x qual : Str} {st : Stmt} {f : Addr} {fd : FuncData} {N ps : List Str} {k : Nat} {ks : List Kd} {kr : Kd} {S : SE → M Ctl} {U' : List Nat} {dk : Nat → Kd}
theorem sameN {H H' : Hp} (h : SameW none H H') : Same H H' := fun b o e => h b o (fun _ q => nomatch q) e
/-- what a body's reading gives -/
theorem end_of {X : Cx} {c : Ct} {t : TS} {Zs : List Addr} {H : Hp} {O : List (Nat × Addr)} {en : SE} {σ : L2.St} {m : MS} {Q : VK} (rt : RdS X c [] [] t S U') (hE : EnvOk X.K c.W c.ms c.dk Zs H [] O en σ H m) (hkr : c.rd = .dat ∨ ∀ e m1 m2, S en m1 ≠ .ok (.nx e) m2)
    (hG : Good (runB S en m) (fun d m' => ∀ v H', SameW c.W H H' → DrawOk c.W H' m' → Res X.K (hide Zs H') c.rd d v → Q v H') (fun _ _ => False)) : t { nx := fun _ H' => Q .non H', rt := Q } σ H := by
  refine rt Zs H O en σ H m _ hE ?_
  have hG := hG.bd
  revert hG
  cases q : S en m with
  | bad => exact fun h => h
  | exc x y => exact fun h => h.elim
  | ok k m1 =>
    intro hG
    cases k with
    | nx e =>
      rcases hkr with hkr | hkr
      · intro O' σ' H' E'
        refine (show ∀ v H', SameW c.W H H' → DrawOk c.W H' m1 → Res X.K (hide Zs H') c.rd .none v → Q v H' from hG) .non H' E'.same E'.dr ?_
        rw [hkr]
        exact Dq.non
      · exact absurd q (hkr e m m1)
    | bk e => exact hG.elim
    | ct e => exact hG.elim
    | rt d => exact fun v H' s d' r => (show ∀ v H', SameW c.W H H' → DrawOk c.W H' m1 → Res X.K (hide Zs H') c.rd d v → Q v H' from hG) v H' s d' r
/-- a def that asks nothing but its arguments -/
theorem fn_P (F : Fun K x qual st f fd) (Sc : FnScope N ps (defScope st)) (hks : ks.length = ps.length) (hdk : ∀ i kk, ks[i]? = some kk → dk i = kk)
    (body : ∀ (cdv : Value) (A : Around) (outer : List Env) (s : Shared) (H : Hp) (E : XK), (A.deeper (PyProof.Rows.envOfC qual (defScope st) s.heap.objs.size f cdv)).guards = some [] → Room k (A.deeper (PyProof.Rows.envOfC qual (defScope st) s.heap.objs.size f cdv)) →
      FSs (cxOf CX0 P w K mg base N qual (defScope st) f cdv A outer s H E).nox ⟨none, [], dk, kr, EN⟩ [] [] (defBody st) S U') (hkr : kr = .dat ∨ ∀ en e m1 m2, S en m1 ≠ .ok (.nx e) m2) : FnV P w K mg base CX0 (k + 1) f fd ps (spP K ks kr fun ds => runB S (env0 N.length ds)) := by
  refine fnV_of F Sc (spP_len hks) fun cdv A outer s H vs Q E hgd hr hsp => ?_
  obtain ⟨Zs, ds, hz, hA, hG⟩ := hsp
  obtain ⟨t, pt, rt⟩ := body cdv A outer s H E hgd hr
  have hl := hA.len
  refine ⟨t, pt.nox, end_of rt (m := ms0) (en := env0 N.length ds) (O := []) (Zs := Zs) ⟨?_, fun i => Iff.rfl, List.nodup_nil, (fun w q => nomatch q), hz, (fun w q => nomatch q), (fun w q => nomatch q), SameW.refl _ _, (fun w q => nomatch q), List.nodup_nil, (fun p hp => nomatch hp), (fun p hp => nomatch hp), fun i d h1 _ => ?_⟩ ?_ ?_⟩
  · unfold env0 L2.start
    rw [List.length_append, List.length_append, List.length_map, List.length_map, List.length_replicate, List.length_replicate, hl.1, hl.2]
  · obtain ⟨kk, v, h2, h3, h4⟩ := hA.get (env0_get h1)
    refine ⟨v, start_get h3, ?_⟩
    show Res K (hide (ZO Zs []) H) (dk i) d v
    rw [hdk i kk h2]
    exact h4.mono (hide_sub fun b hb => by simpa [ZO] using hb)
  · rcases hkr with q | q
    · exact .inl q
    · exact .inr fun e m1 m2 => q _ e m1 m2
  · exact hG.mono (fun d m' kk v H' s' d' r => kk v H' (sameN s') r) fun _ _ k => k
/-- a def whose first argument is the machine -/
theorem fn_M (F : Fun K x qual st f fd) (Sc : FnScope N ps (defScope st)) (hks : ks.length + 1 = ps.length) (hdk : ∀ i kk, ks[i]? = some kk → dk (i + 1) = kk)
    (body : ∀ (W : Wd) (cdv : Value) (A : Around) (outer : List Env) (s : Shared) (H : Hp) (E : XK), (A.deeper (PyProof.Rows.envOfC qual (defScope st) s.heap.objs.size f cdv)).guards = some [] → Room k (A.deeper (PyProof.Rows.envOfC qual (defScope st) s.heap.objs.size f cdv)) →
      FSs (cxOf CX0 P w K mg base N qual (defScope st) f cdv A outer s H E).nox ⟨some W, [0], dk, kr, EN⟩ [] [] (defBody st) S U') (hkr : kr = .dat ∨ ∀ en e m1 m2, S en m1 ≠ .ok (.nx e) m2) : FnV P w K mg base CX0 (k + 1) f fd ps (spM K ks kr fun ds => runB S (envM N.length ds)) := by
  refine fnV_of F Sc (spM_len hks) fun cdv A outer s H vs Q E hgd hr hsp => ?_
  obtain ⟨W, Zs, ds, m, vs', rfl, hw, hz, hd, hA, hG⟩ := hsp
  obtain ⟨t, pt, rt⟩ := body W cdv A outer s H E hgd hr
  have hl := hA.len
  refine ⟨t, pt.nox, end_of rt (m := m) (en := envM N.length ds) (O := []) (Zs := Zs) ⟨?_, fun i => Iff.rfl, List.nodup_nil, hw, hz, (fun w q => ?_), hd, SameW.refl _ _, (fun w q j hj => ?_), List.nodup_nil, (fun p hp => nomatch hp), (fun p hp => nomatch hp), fun i d h1 _ => ?_⟩ ?_ hG⟩
  · unfold envM L2.start
    simp only [List.length_append, List.length_map, List.length_replicate, List.length_cons, hl.1, hl.2]
    omega
  · obtain ⟨a, b, c⟩ := hw w q
    exact ⟨hz _ a, hz _ b, hz _ c⟩
  · cases q
    obtain rfl : j = 0 := List.mem_singleton.mp hj
    exact start_get rfl
  · cases i with
    | zero => cases h1
    | succ i =>
      have h1 : (ds.map some ++ List.replicate (N.length - (ds.length + 1)) none)[i]? = some (some d) := h1
      have h5 : ds[i]? = some d := by
        by_cases hi : i < ds.length
        · rw [List.getElem?_append_left (by simpa using hi), List.getElem?_map] at h1
          cases q : ds[i]? with
          | none => rw [q] at h1; cases h1
          | some d' => rw [q] at h1; cases h1; rfl
        · rw [List.getElem?_append_right (by simpa using hi), List.getElem?_replicate] at h1
          split at h1 <;> cases h1
      obtain ⟨kk, v, h2, h3, h4⟩ := hA.get h5
      refine ⟨v, start_get (by simpa using h3), ?_⟩
      show Res K (hide (ZO Zs []) H) (dk (i + 1)) d v
      rw [hdk i kk h2]
      exact h4.mono (hide_sub fun b hb => by simpa [ZO] using hb)
  · rcases hkr with q | q
    · exact .inl q
    · exact .inr fun e m1 m2 => q _ e m1 m2
end
end VL
/-! the value layer: short words for printed derivations -/
namespace VL
open PySem
open PySem.Spec
open L2
section
variable {X : Cx} {c : Ct} {U Un UL : List Nat}
theorem fe_gI {x : Str} {i : Int} {pos : Pos} (h : ∃ t, X.mg x = some (.int i t)) (hg : Gl X x := by rfl) (hd : (x == ("__debug__" : Str)) = false := by decide) : FE X c U (.Name x pos) (eC (.int i)) := by
  obtain ⟨t, h⟩ := h
  exact fe_gi h ⟨t, rfl⟩ hg hd
theorem hu_1 (h : HU X) : X.A.units + 1 < cLine := by
  unfold HU at h
  omega
theorem hu_64 (h : HU X) : X.A.units + 64 < cLine := by
  unfold HU at h
  omega
theorem hu_65 (h : HU X) : X.A.units + 65 < cLine := by
  unfold HU at h
  omega
end
/-- a def of the module: where it stands, what it promises -/
structure Fc (P : Program) (w : World) (K : PySem.W.Frag) (mg : Str → Option Value) (base : Heap) (x : Str) (k : Nat) (f : Addr) (fd : FuncData) (ps : List Str) (ks : List Kd) (kr : Kd) (Fn : List D → M D) : Prop where
  fn : FnV P w K mg base CX0 k f fd ps (spP K ks kr Fn)
  here : mg x = some (.ref f)
  kp : PySem.W.keepIn K (.ref f) = true
  bi : Binds K fd ps []
structure FcM (P : Program) (w : World) (K : PySem.W.Frag) (mg : Str → Option Value) (base : Heap) (x : Str) (k : Nat) (f : Addr) (fd : FuncData) (ps : List Str) (ks : List Kd) (kr : Kd) (Fn : List D → M D) : Prop where
  fn : FnV P w K mg base CX0 k f fd ps (spM K ks kr Fn)
  here : mg x = some (.ref f)
  kp : PySem.W.keepIn K (.ref f) = true
  bi : Binds K fd ps []
def eCallM (Fn : List D → M D) (A : SE → M (List D)) : SE → M D := fun en => do
  let ds ← A en
  nox (Fn ds)
section
variable {X : Cx} {c : Ct} {U Un UL : List Nat} {k : Nat} {f : Addr} {fd : FuncData} {ps : List Str} {x : Str} {p pos : Pos} {e : Expr} {es : List Expr} {ks : List Kd} {kr : Kd} {Fn : List D → M D} {A : SE → M (List D)}
theorem fr_f (C : Fc X.prog X.w X.K X.mg X.base x k f fd ps ks kr Fn) (hgd : X.A.guards = some []) (hr : Room k X.A) (ha : FA X c U (e :: es) ks A) (hg : Gl X x := by rfl)
    (hdb : (x == ("__debug__" : Str)) = false := by decide) (he : starEach (e :: es) X.env = (false, eval e X.env) :: starEach es X.env := by rfl) (hpl : (backTo pos (starEach es X.env)).any (·.1) = false := by rfl) : FR X c U kr (.Call (.Name x p) (e :: es) [] pos) (eCall Fn A) :=
  fr_call C.fn hgd hr C.here C.kp C.bi ha hg hdb he hpl
theorem fr_m (j : Nat) {y : Str} {py : Pos} {w : Wd} (hW : c.W = some w) (C : FcM X.prog X.w X.K X.mg X.base x k f fd ps ks kr Fn) (hgd : X.A.guards = some []) (hr : Room k X.A) (ha : FA X c U es ks A)
    (hj : j ∈ c.ms := by (try dsimp only); decide) (hN : X.N[j]? = some y := by rfl) (hv : Vis X.env.scope y := by first | exact Or.inl rfl | exact Or.inr (Or.inl rfl) | exact Or.inr (Or.inr rfl)) (hd : (y == ("__debug__" : Str)) = false := by decide) (hcd : (y == ("__classdict__" : Str)) = false := by decide) (hg : Gl X x := by rfl)
    (hdb : (x == ("__debug__" : Str)) = false := by decide) (he : starEach (.Name y py :: es) X.env = (false, eval (.Name y py) X.env) :: starEach es X.env := by rfl) (hpl : (backTo pos (starEach es X.env)).any (·.1) = false := by rfl) : FR X c U kr (.Call (.Name x p) (.Name y py :: es) [] pos) (eCallM Fn A) :=
  fr_callM j C.fn hW hgd hr C.here C.kp C.bi ha hj hN hv hd hcd hg hdb he hpl

/-! ### two names at once -/
def sPar (i j : Nat) (A : SE → M (List D)) : SE → M Ctl := fun en => do
  let ds ← A en
  match ds with
  | [a, b] => pure (.nx ((en.set i (some a)).set j (some b)))
  | _ => M.no
theorem fs_par (i j : Nat) {x y : Str} {a b : Expr} {ki kj : Kd} {px py pt pos : Pos} {kt k2 pt2} (hc : X.calm = true) (hN : X.N.Nodup) (ha : FA X c U [a, b] [ki, kj] A)
    (hki : c.dk i = ki := by rfl) (hkj : c.dk j = kj := by rfl) (hUi : i ∉ U := by decide) (hUj : j ∉ U := by decide) (hmi : i ∉ c.ms := by (try dsimp only); decide) (hmj : j ∉ c.ms := by (try dsimp only); decide) (hi : X.N[i]? = some x := by rfl) (hj : X.N[j]? = some y := by rfl) (hij : i ≠ j := by decide)
    (hx : X.env.scope.names.lookup x = some .local := by rfl) (hy : X.env.scope.names.lookup y = some .local := by rfl)
    (hw : swappedStores [.Tuple [.Name x px, .Name y py] kt pt] (.Tuple [a, b] k2 pt2) X.env = pure (some [x, y]) := by rfl)
    (hs : swapsWithSole [.Tuple [.Name x px, .Name y py] kt pt] (.Tuple [a, b] k2 pt2) pos.line X.env = pure false := by rfl) :
    FS X c UL U (.Assign [.Tuple [.Name x px, .Name y py] kt pt] (.Tuple [a, b] k2 pt2) pos) (sPar i j A) U := by
  obtain ⟨t, p, r⟩ := ha
  refine ⟨_, ps_par hc hN hi hj hij hx hy p hw hs, fun Z H0 O en σ H m Ds hE hG => r Z H0 O en σ H m _ hE (hG.bd.mono (fun ds m1 k1 vs H1 s1 d1 q1 => ?_) fun _ _ k => (ExK.out hE k))⟩
  obtain ⟨v, w, d, e, rfl, rfl, q5, q6⟩ := q1.two
  subst hki hkj
  refine ⟨v, w, rfl, ?_⟩
  exact (show ∀ O' σ' H', EnvOk X.K c.W c.ms c.dk Z H0 U O' ((en.set i (some d)).set j (some e)) σ' H' m1 → Ds.nx σ' H' from k1) O _ H1 (((hE.step s1 d1).put' hUi hmi q5).put' hUj hmj q6)
def sParO (i j : Nat) (F G : SE → M D) : SE → M Ctl := fun en => do
  let a ← F en
  let b ← G en
  if i < en.length ∧ j < en.length then pure (.nx ((en.set i (some a)).set j (some b))) else M.no
/-- a new object that is kept for a while is taken into a slot -/
theorem EnvOk.adopt {K : PySem.W.Frag} {W : Option Wd} {ms : List Nat} {dk : Nat → Kd} {Z : List Addr} {H0 H : Hp} {U : List Nat} {O : List (Nat × Addr)} {e : SE} {σ : L2.St} {m : MS} {i : Nat} {a : Addr} {d : D} {o : HO} (h : EnvOk K W ms dk (a :: Z) H0 U O e σ H m) (wz : WIn W Z) (nz : a ∉ Z) (n0 : H0 a = none) (hi : i ∉ U) (hm : i ∉ ms) (hl : i < σ.length)
    (ho : H a = some o) (r : OwnR K (hide (ZO (a :: Z) O) H) d o) (hk : dk i = kO o) : EnvOk K W ms dk Z H0 (i :: U) ((i, a) :: O) (e.set i (some d)) (σ.set i (some (.ref a))) H m := by
  have sub : ∀ b ∈ ZO Z ((i, a) :: O), b ∈ ZO (a :: Z) O := fun b hb => by
    rcases List.mem_append.mp hb with q | q
    · exact List.mem_cons_of_mem _ (List.mem_append_left _ q)
    · rcases List.mem_cons.mp q with q | q
      · exact List.mem_cons.mpr (.inl q)
      · exact List.mem_cons_of_mem _ (List.mem_append_right _ q)
  have st : Same (hide (ZO (a :: Z) O) H) (hide (ZO Z ((i, a) :: O)) H) := hide_sub sub
  refine ⟨by rw [List.length_set, List.length_set]; exact h.len, fun j => ?_, ?_, wz, fun z hz => h.zt0 z (List.mem_cons_of_mem _ hz), h.w0, h.dr, h.same, fun w q j hj => ?_, ?_, fun p hp => ?_, fun p hp => ?_, fun j d1 h1 h2 => ?_⟩
  · rw [List.map_cons, List.mem_cons, List.mem_cons, h.us]
  · rw [List.map_cons, List.nodup_cons]
    exact ⟨fun q => hi ((h.us i).mp q), h.und⟩
  · have : i ≠ j := fun t => hm (t ▸ hj)
    rw [List.getElem?_set_ne this]
    exact h.dm w q j hj
  · rw [List.map_cons, List.nodup_cons]
    refine ⟨fun q => ?_, h.nds⟩
    obtain ⟨p, hp, e1⟩ := List.mem_map.mp q
    exact h.nz p hp (by rw [e1]; exact List.mem_cons_self)
  · rcases List.mem_cons.mp hp with rfl | hp
    · exact nz
    · exact fun q => h.nz p hp (List.mem_cons_of_mem _ q)
  · rcases List.mem_cons.mp hp with rfl | hp
    · exact ⟨n0, d, o, by rw [List.getElem?_set_self (by rw [h.len]; exact hl)], by rw [List.getElem?_set_self hl], ho, r.mono st, hk⟩
    · obtain ⟨n', d1, o1, h1, h2, h3, h4, h5⟩ := h.own p hp
      have ne : i ≠ p.1 := h.ne_own hi hp
      exact ⟨n', d1, o1, by rw [List.getElem?_set_ne ne]; exact h1, by rw [List.getElem?_set_ne ne]; exact h2, h3, h4.mono st, h5⟩
  · have ne : i ≠ j := fun t => h2 (by rw [t]; exact List.mem_cons_self)
    rw [List.getElem?_set_ne ne] at h1 ⊢
    obtain ⟨v, g1, g2⟩ := h.rep j d1 h1 fun q => h2 (List.mem_cons_of_mem _ q)
    exact ⟨v, g1, g2.mono st⟩
theorem EnvOk.perm {K : PySem.W.Frag} {W : Option Wd} {ms : List Nat} {dk : Nat → Kd} {Z Z' : List Addr} {H0 H : Hp} {U : List Nat} {O : List (Nat × Addr)} {e : SE} {σ : L2.St} {m : MS} (h : EnvOk K W ms dk Z H0 U O e σ H m) (p : ∀ b, b ∈ Z ↔ b ∈ Z') : EnvOk K W ms dk Z' H0 U O e σ H m := by
  have st : Same (hide (ZO Z O) H) (hide (ZO Z' O) H) := hide_sub fun b hb => by
    rcases List.mem_append.mp hb with q | q
    · exact List.mem_append_left _ ((p b).mpr q)
    · exact List.mem_append_right _ q
  refine ⟨h.len, h.us, h.und, fun w q => ?_, fun z hz => h.zt0 z ((p z).mpr hz), h.w0, h.dr, h.same, h.dm, h.nds, fun q hq t => h.nz q hq ((p _).mpr t), fun q hq => ?_, fun j d1 h1 h2 => ?_⟩
  · obtain ⟨q1, q2, q3⟩ := h.wz w q
    exact ⟨(p _).mp q1, (p _).mp q2, (p _).mp q3⟩
  · obtain ⟨n', d, o, h1, h2, h3, h4, h5⟩ := h.own q hq
    exact ⟨n', d, o, h1, h2, h3, h4.mono st, h5⟩
  · obtain ⟨v, g1, g2⟩ := h.rep j d1 h1 h2
    exact ⟨v, g1, g2.mono st⟩
theorem ExK.temp {Z : List Addr} {σ : L2.St} {H : Hp} {O : List (Nat × Addr)} {x : Exn} {m : MS} {v : Addr} (h : ExK X c (ZO Z O) σ H x m) : ExK X c (ZO (v :: Z) O) σ H x m := fun C od H' s d r => by
  refine h C od H' s d ?_
  obtain ⟨Ca, dd, vs, h1, h2, h3, h4, h5⟩ := r
  have sub : Same (hide (ZO (v :: Z) O) H') (hide (ZO Z O) H') := hide_sub fun b hb => List.mem_cons_of_mem _ hb
  exact ⟨Ca, dd, vs, h1, h2, h3, sub _ _ h4, DqAll.mono sub h5⟩
theorem OwnR.drop {K : PySem.W.Frag} {H H' : Hp} {d : D} {o : HO} (h : OwnR K H d o) (s : Same H H') : OwnR K H' d o := h.mono s
theorem fs_parO (i j : Nat) {x y : Str} {a b : Expr} {ki kj : Kd} {F G : SE → M D} {px py pt pos : Pos} {kt k2 pt2} (hc : X.calm = true) (hN : X.N.Nodup) (ha : FO X c U ki a F) (hb : FO X c U kj b G)
    (hki : c.dk i = ki := by rfl) (hkj : c.dk j = kj := by rfl) (hUi : i ∉ U := by decide) (hUj : j ∉ U := by decide) (hmi : i ∉ c.ms := by (try dsimp only); decide) (hmj : j ∉ c.ms := by (try dsimp only); decide) (hi : X.N[i]? = some x := by rfl) (hj : X.N[j]? = some y := by rfl) (hij : i ≠ j := by decide)
    (hx : X.env.scope.names.lookup x = some .local := by rfl) (hy : X.env.scope.names.lookup y = some .local := by rfl)
    (hw : swappedStores [.Tuple [.Name x px, .Name y py] kt pt] (.Tuple [a, b] k2 pt2) X.env = pure (some [x, y]) := by rfl)
    (hs : swapsWithSole [.Tuple [.Name x px, .Name y py] kt pt] (.Tuple [a, b] k2 pt2) pos.line X.env = pure false := by rfl)
    (h1 : starEach [a, b] X.env = (false, eval a X.env) :: starEach [b] X.env := by rfl) (h2 : starEach [b] X.env = (false, eval b X.env) :: starEach [] X.env := by rfl) :
    FS X c UL U (.Assign [.Tuple [.Name x px, .Name y py] kt pt] (.Tuple [a, b] k2 pt2) pos) (sParO i j F G) (j :: i :: U) := by
  obtain ⟨ta, pa, ra⟩ := ha
  obtain ⟨tb, pb, rb⟩ := hb
  refine ⟨_, ps_par hc hN hi hj hij hx hy (pa_cons pa (pa_cons pb pa_nil h2) h1) hw hs, fun Z H0 O en σ H m Ds hE hG => ra Z H0 O en σ H m _ hE (hG.bd.mono (fun d m1 k1 v o H1 s1 d1 n1 o1 r1 e1 => ?_) fun _ _ k => (ExK.out hE k))⟩
  have nv : v ∉ ZO Z O := fun z => hE.zt v z n1
  have n0 := hE.none0 n1
  have E1 : EnvOk X.K c.W c.ms c.dk (v :: Z) H0 U O en σ H1 m1 := hE.temp s1 d1 n1 (by rw [o1]; exact fun x => nomatch x)
  refine rb (v :: Z) H0 O en σ H1 m1 _ E1 (k1.bd.mono (fun d' m2 k2 w o' H2 s2 d2 n2 o2 r2 e2 => ?_) fun x m' k => (ExK.outS (ExK.out hE k) s1).temp)
  have hw0 := E1.nw0 n0
  have o1' : H2 v = some o := s2 v o (fun w q => ⟨(hw0 w q).1, (hw0 w q).2.2⟩) o1
  have nw : w ∉ ZO (v :: Z) O := fun z => E1.zt w z n2
  have nwv : w ≠ v := fun t => nw (by rw [t]; exact List.mem_append_left _ List.mem_cons_self)
  refine ⟨.ref v, .ref w, rfl, ?_⟩
  have k2 : Good ((if i < en.length ∧ j < en.length then pure (.nx ((en.set i (some d)).set j (some d'))) else M.no : M Ctl) m2) _ _ := k2
  by_cases hl : i < en.length ∧ j < en.length
  · rw [if_pos hl] at k2
    have E2 : EnvOk X.K c.W c.ms c.dk (w :: v :: Z) H0 U O en σ H2 m2 := E1.temp s2 d2 n2 (by rw [o2]; exact fun x => nomatch x)
    have r1' : OwnR X.K (hide (ZO (w :: v :: Z) O) H2) d o := r1.mono (Same.trans (hide_temp (Z := v :: ZO Z O) s2 E1.wzo n2) (hide_sub fun b hb => hb))
    have E3 : EnvOk X.K c.W c.ms c.dk (w :: Z) H0 (i :: U) ((i, v) :: O) (en.set i (some d)) (σ.set i (some (.ref v))) H2 m2 := by
      have E2' : EnvOk X.K c.W c.ms c.dk (v :: w :: Z) H0 U O en σ H2 m2 := E2.perm (fun b => by simp only [List.mem_cons]; exact or_left_comm)
      refine E2'.adopt (fun w' q => ?_) (by simp only [List.mem_cons, not_or]; exact ⟨fun t => nwv t.symm, fun t => nv (List.mem_append_left _ t)⟩) n0 hUi hmi (by rw [← hE.len]; exact hl.1) o1' ?_ (hki.trans e1.symm)
      · obtain ⟨q1, q2, q3⟩ := hE.wz w' q
        exact ⟨List.mem_cons_of_mem _ q1, List.mem_cons_of_mem _ q2, List.mem_cons_of_mem _ q3⟩
      · refine r1'.mono (hide_sub fun b hb => ?_)
        rcases List.mem_append.mp hb with q | q
        · refine List.mem_append_left _ ?_
          simp only [List.mem_cons] at q ⊢
          exact or_left_comm.mp q
        · exact List.mem_append_right _ q
    have hUj' : j ∉ i :: U := by
      simp only [List.mem_cons, not_or]
      exact ⟨hij.symm, hUj⟩
    have w0 : H0 w = none := E1.none0 n2
    refine k2 _ _ H2 (E3.adopt hE.wz (fun t => nw (List.mem_append_left _ (List.mem_cons_of_mem _ t))) w0 hUj' hmj (by rw [List.length_set, ← hE.len]; exact hl.2) o2 ?_ (hkj.trans e2.symm))
    refine r2.mono (hide_sub fun b hb => ?_)
    rcases List.mem_append.mp hb with q | q
    · rcases List.mem_cons.mp q with q | q
      · exact List.mem_cons.mpr (.inl q)
      · exact List.mem_cons_of_mem _ (List.mem_append_left _ (List.mem_cons_of_mem _ q))
    · rcases List.mem_cons.mp q with q | q
      · exact List.mem_cons_of_mem _ (List.mem_append_left _ (List.mem_cons.mpr (.inl q)))
      · exact List.mem_cons_of_mem _ (List.mem_append_right _ q)
  · rw [if_neg hl] at k2
    exact k2.elim
end
end VL
/-! the value layer: list(range), len of dicts -/
namespace VL
open PySem
open PySem.Spec
open L2
def addI : D → D → Option D := fun a b => match a, b with
  | .int i, .int j => some (.int (i + j))
  | _, _ => none
section
variable {X : Cx} {c : Ct} {U Un UL : List Nat}
theorem iv_addI : IpV X .Add addI := iv_add
def lrngD : D → Option D
  | .int j => if -(2 ^ 62) ≤ j ∧ j < 2 ^ 62 ∧ j.toNat ≤ 2 ^ 24 then some (.list (rngI 0 j.toNat)) else none
  | _ => none
theorem lrngD_some {e d : D} (h : lrngD e = some d) : ∃ j : Int, e = .int j ∧ (-(2 ^ 62) ≤ j ∧ j < 2 ^ 62 ∧ j.toNat ≤ 2 ^ 24) ∧ d = .list (rngI 0 j.toNat) := by
  unfold lrngD at h
  split at h
  · rename_i j
    by_cases hc : -(2 ^ 62) ≤ j ∧ j < 2 ^ 62 ∧ j.toNat ≤ 2 ^ 24
    · rw [if_pos hc] at h
      cases h
      exact ⟨j, rfl, hc, rfl⟩
    · rw [if_neg hc] at h
      cases h
  · cases h
theorem dq_rng {K : PySem.W.Frag} {H : Hp} (lo : Int) : ∀ l : List Nat, DqAll K H (l.map fun i => V.int (lo + (i : Nat))) (l.map fun i => PyData.int (lo + (i : Nat)))
  | [] => .nil
  | i :: l => .cons (.int _) (dq_rng lo l)
theorem fo_lrng {a : Expr} {F : SE → M D} {p1 p2 q1 q2 : Pos} (hl : X.mg "list" = none) (hm : X.mg "range" = none) (h : FE X c U a F) (hc : X.calm = true := by rfl) (hg : Gl X "range" := by rfl) (hg2 : Gl X "list" := by rfl)
    (na : starEach [a] X.env = (false, eval a X.env) :: starEach [] X.env := by rfl)
    (nb : starEach [.Call (.Name "range" p1) [a] [] q1] X.env = (false, eval (.Call (.Name "range" p1) [a] [] q1) X.env) :: starEach [] X.env := by rfl) :
    FO X c U .dat (.Call (.Name "list" p2) [.Call (.Name "range" p1) [a] [] q1] [] q2) (e1 lrngD F) := by
  obtain ⟨t, p, r⟩ := h
  refine ⟨_, pe_listRg hc hg2 hl (prg_1 hg hm p na) nb, fun Z H0 O en σ H m Q hE hG => r Z H0 O en σ H m _ hE (hG.bd.mono (fun d m1 k1 v H1 s1 d1 q5 => ?_) fun _ _ k => k)⟩
  obtain ⟨d, hx, k2⟩ := k1.lft
  obtain ⟨j, rfl, hcs, rfl⟩ := lrngD_some hx
  cases (show Dq X.K _ v (.int j) from q5)
  refine ⟨j, rfl, ⟨by omega, by omega, hcs.1, hcs.2.1, by rw [Int.sub_zero]; exact hcs.2.2⟩, fun q hq => ?_⟩
  refine k2 q _ _ (s1.trans (.of (same_new hq _))) (d1.same (same_new hq _)) (none_step s1 d1 hq) upd_same ?_ rfl
  have e1 : (j - 0).toNat = j.toNat := by rw [Int.sub_zero]
  show OwnR X.K _ (.list (rngI 0 j.toNat)) (.lst (rgV 0 j))
  unfold rngI rgV
  rw [e1]
  exact .lst _ _ (dq_rng 0 _)
/-! ### len of a dict -/
theorem call_len_dK : CallR X (.builtin "len") (fun xs H Q => ∃ (p : Addr) (kvs : List (Key × V)), xs = [.ref p] ∧ H p = some (.dK kvs) ∧ Q (.int ((kvs.length : Nat) : Int)) H) := by
  intro pins s σ H ws us Q I rl hh
  obtain ⟨p, kvs, rfl, hp, q⟩ := hh
  obtain ⟨u, rfl, rx⟩ := vals1 rl
  obtain rfl : u = .ref p := rx
  exact d_len I (.inl hp) fun t s' I' => ⟨.int ((kvs.length : Nat) : Int), H, I', ⟨t, rfl⟩, q⟩
theorem fe_lenK (i : Nat) {x : Str} {px p pos : Pos} (hm : X.mg "len" = none) (hk : c.dk i = .dic := by rfl) (hN : X.N[i]? = some x := by rfl) (hv : Vis X.env.scope x := by first | exact Or.inl rfl | exact Or.inr (Or.inl rfl) | exact Or.inr (Or.inr rfl)) (hd : (x == ("__debug__" : Str)) = false := by decide) (hcd : (x == ("__classdict__" : Str)) = false := by decide) (hg : Gl X "len" := by rfl)
    (he : starEach [.Name x px] X.env = (false, eval (.Name x px) X.env) :: starEach [] X.env := by rfl) (hpl : (backTo pos (starEach [] X.env)).any (·.1) = false := by rfl) : FE X c U (.Call (.Name "len" p) [.Name x px] [] pos) (eDlen i) := by
  refine ⟨_, pe_callB call_len_dK hg hm PySem.boot_len (pa_cons (pe_var hN hv hd hcd) pa_nil he) (by decide) (by decide) he hpl, fun Z H0 O en σ H m Q hE hG => ?_⟩
  obtain ⟨kvs, he', kG⟩ := hG.bd.lft
  obtain ⟨a, ks, vs, ds, h1, h2, rfl, h4, h5, h6, h7⟩ := hE.dicR he' hk
  refine ⟨_, h1, a, _, rfl, h2, ?_⟩
  have e : (ks.zip vs).length = ((ks.map keyD).zip ds).length := by
    rw [zip_len h5, zip_len (by rw [List.length_map, h5, DqAll.length h4]), List.length_map]
  rw [e]
  exact kG _ H (SameW.refl _ _) hE.dr (.int _)
theorem fe_lenT (i : Nat) {x : Str} {px p pos : Pos} (hm : X.mg "len" = none) (hk : c.dk i = .dit := by rfl) (hN : X.N[i]? = some x := by rfl) (hv : Vis X.env.scope x := by first | exact Or.inl rfl | exact Or.inr (Or.inl rfl) | exact Or.inr (Or.inr rfl)) (hd : (x == ("__debug__" : Str)) = false := by decide) (hcd : (x == ("__classdict__" : Str)) = false := by decide) (hg : Gl X "len" := by rfl)
    (he : starEach [.Name x px] X.env = (false, eval (.Name x px) X.env) :: starEach [] X.env := by rfl) (hpl : (backTo pos (starEach [] X.env)).any (·.1) = false := by rfl) : FE X c U (.Call (.Name "len" p) [.Name x px] [] pos) (eDlen i) := by
  refine ⟨_, pe_callB call_len_dT hg hm PySem.boot_len (pa_cons (pe_var hN hv hd hcd) pa_nil he) (by decide) (by decide) he hpl, fun Z H0 O en σ H m Q hE hG => ?_⟩
  obtain ⟨kvs, he', kG⟩ := hG.bd.lft
  obtain ⟨a, ks, vs, ds, h1, h2, rfl, h4, h5, h6, h7⟩ := hE.ditR he' hk
  refine ⟨_, h1, a, _, rfl, h2, ?_⟩
  have e : (ks.zip vs).length = ((ks.map keyT).zip ds).length := by
    rw [zip_len h5, zip_len (by rw [List.length_map, h5, DqAll.length h4]), List.length_map]
  rw [e]
  exact kG _ H (SameW.refl _ _) hE.dr (.int _)
end
end VL
/-! the value layer: tuples known to the object; tuple.index -/
namespace VL
open PySem
open PySem.Spec
open L2
/-- tuple(list): a new tuple that has no dict of its own -/
def rTupN (K : PySem.W.Frag) : List V → Hp → VK → Prop := fun xs H Q => ∃ p ys, xs = [.ref p] ∧ SqL K H p ys ∧ ∀ l o, o.dict = none → H l = none → Q (.ref l) (upd H l (.frz o (.tup ys)))
section
variable {X : Cx} {c : Ct} {U Un UL : List Nat}
theorem cr_tupN : CallR X (.type "tuple") (rTupN X.K) := by
  intro pins s σ H ws us Q I rl hh
  obtain ⟨p, ys, rfl, hq, q⟩ := hh
  obtain ⟨u, rfl, rx⟩ := vals1 rl
  cases rx
  obtain ⟨its, rv, pl, hz⟩ := I.list hq
  have hle := rv.length
  refine call_tuple_list pl.isList (fun h' kp => ?_) (by simp only [List.size_toArray] <;> omega)
  have Ia : Inv X pins σ H { s with heap := h' } := I.kept (t' := s.toks) kp
  have Ib : Inv X pins σ (upd H h'.objs.size (.frz { cls := .type "tuple", data := .seq its.toArray } (.tup ys))) { s with heap := h'.push { cls := .type "tuple", data := .seq its.toArray } } :=
    Ia.laid (t' := s.toks) (fun b o e => Heap.get?_push_of_some _ e) (Nat.le_refl _) ⟨Heap.get?_push_size _ rfl, hz, its, rv, PyProof.Rows.IsTup.new _ _⟩
  exact ⟨.ref h'.objs.size, _, Ib, rfl, q _ _ rfl (Ia.hok.fresh (Nat.le_refl _))⟩
theorem fr_tupN {p pos : Pos} {e : Expr} {F : SE → M (List D)} (hm : X.mg "tuple" = none) (ha : FAb X c U [e] F) (hg : Gl X "tuple" := by rfl) (he : starEach [e] X.env = (false, eval e X.env) :: starEach [] X.env := by rfl) (hpl : (backTo pos (starEach [] X.env)).any (·.1) = false := by rfl) :
    FR X c U .nd (.Call (.Name "tuple" p) [e] [] pos) (eL (one1 fun d => (seqL d).map .tuple) F) := by
  obtain ⟨t, pa, ra⟩ := ha
  refine ⟨_, pe_callTy cr_tupN hg hm PyProof.Rows.boot_tuple pa (by decide) (by decide) he hpl, fun Z H0 O en σ H m Q hE hG => ra Z H0 O en σ H m _ hE (hG.bd.mono (fun ds m1 k1 vs H1 s1 d1 q1 => ?_) fun _ _ k => k)⟩
  obtain ⟨d, hd, k2⟩ := k1.lft
  obtain ⟨a, rfl, hd⟩ := one1_some hd
  obtain ⟨xs, hx, rfl⟩ := Option.map_eq_some_iff.mp hd
  obtain rfl := seqL_some hx
  obtain ⟨v, rfl, hv⟩ := all2_1 (q1 H1 (SameW.refl _ _))
  obtain ⟨b, ys, rfl, h1, h2⟩ := hv.lst
  have E1 := hE.step s1 d1
  refine ⟨b, ys, rfl, h1, fun l o ho hl => ?_⟩
  have nl : l ∉ ZO Z O := fun z => E1.zt l z hl
  have hn : hide (ZO Z O) (upd H1 l (.frz o (.tup ys))) l = some (.frz o (.tup ys)) := by rw [hide_ne nl, upd_same]
  refine k2 _ _ (s1.trans (.of (same_new hl _))) (d1.same (same_new hl _)) ⟨Dq.tup (.inr ⟨o, hn⟩) (DqAll.mono (hide_push0 hl) h2), l, o, ys, rfl, hn, ho⟩
/-! ### t.index(k), ints -/
def rIxOf (K : PySem.W.Frag) : V → List V → Hp → VK → Prop := fun x vs H Q => ∃ (a : Addr) (ns : List Int) (i : Int), x = .ref a ∧ vs = [.int i] ∧ SqT K H a (ns.map V.int) ∧ i ∈ ns ∧ Q (.int (ns.idxOf i : Nat)) H
theorem mt_tindex : MtR X "tuple.index" (rIxOf X.K) := by
  intro pins s σ H x ws v us Q I rx rl hh
  obtain ⟨a, ns, i, rfl, rfl, hs, hi, q⟩ := hh
  cases rx
  obtain ⟨u, rfl, t, rfl⟩ := vals1 rl
  obtain ⟨its, rv, p, _⟩ := I.tuple hs
  exact PySem.SeqAt.tuple_index_ints p (intsAre_of rv) hi ⟨.int (ns.idxOf i : Nat), H, I.tok _, ⟨_, rfl⟩, q⟩
def tyNd (x : V) (H : Hp) : Prop := NoDt H x
theorem ty_nd : TyOk X "tuple" tyNd := by
  intro pins σ H s x v I r ty
  obtain ⟨a, o, xs, rfl, h1, h2⟩ := ty
  cases r
  obtain ⟨e, z, its, rv, p⟩ := I.hok a _ h1
  have p := p
  refine ⟨?_, fun b q => ?_⟩
  · obtain ⟨o', e', c', _⟩ := p
    exact ⟨o', e', c'⟩
  · cases q
    exact ⟨o, e, h2⟩
def idxD (d e : D) : Option D := match d, e with
  | .tuple xs, .int i => (intsD xs).bind fun ns => if i ∈ ns then some (.int (ns.idxOf i : Nat)) else none
  | _, _ => none
theorem idxD_some {d e r : D} (h : idxD d e = some r) : ∃ (ns : List Int) (i : Int), d = .tuple (ns.map PyData.int) ∧ e = .int i ∧ i ∈ ns ∧ r = .int (ns.idxOf i : Nat) := by
  unfold idxD at h
  split at h
  · rename_i xs i
    obtain ⟨ns, h1, h2⟩ := Option.bind_eq_some_iff.mp h
    obtain rfl := intsD_some h1
    by_cases hi : i ∈ ns
    · rw [if_pos hi] at h2
      cases h2
      exact ⟨ns, i, rfl, rfl, hi, rfl⟩
    · rw [if_neg hi] at h2
      cases h2
  · cases h
theorem fe_tindex {e o : Expr} {apos cpos : Pos} {F G : SE → M D} (ho : FR X c U .nd o F) (h : FE X c U e G)
    (hbase : attributeBase o "index" X.env (eval o X.env) = eval o X.env := by rfl)
    (hfew : ((backTo cpos (starEach [e] X.env)).all (fun x => !x.1) && (backToKw cpos (keywordEach [] X.env)).all (fun x => x.1.isSome)
      && decide (([e] : List Expr).length + ([] : List Keyword).length + (if ([] : List Keyword).isEmpty then 0 else 1) < 30)) = true := by rfl)
    (hline : (apos.endLine == cpos.line) = true := by rfl) (hs : starEach [e] X.env = (false, eval e X.env) :: starEach [] X.env := by rfl) (hplain : (backTo cpos (starEach [] X.env)).any (·.1) = false := by rfl) :
    FE X c U (.Call (.Attribute o "index" apos) [e] [] cpos) (e2 idxD F G) := by
  obtain ⟨to, po, ro⟩ := ho
  obtain ⟨t, p, r⟩ := h
  refine ⟨_, pe_mG ty_nd PySem.F.plainAttrs_tuple PySem.F.slot_tuple_index PySem.F.type_tuple_index mt_tindex po (pa_cons p pa_nil hs) hbase hfew hline hs hplain, fun Z H0 O en σ H m Q hE hG => ?_⟩
  refine ro Z H0 O en σ H m _ hE (hG.bd.mono (fun a m1 k1 x H1 s1 d1 q1 => ?_) fun _ _ k => k)
  refine ⟨q1.2.mono (hide_same _ _), r Z H0 O en σ H1 m1 _ (hE.step s1 d1) (k1.bd.mono (fun b m2 k2 y H2 s2 d2 q2 => ?_) fun _ _ k => k.step s1)⟩
  obtain ⟨d, hd, k3⟩ := k2.lft
  obtain ⟨ns, i, rfl, rfl, hi, rfl⟩ := idxD_some hd
  cases (show Dq X.K _ y (.int i) from q2)
  obtain ⟨p', vs, rfl, h1, h2⟩ := Dq.tupE q1.1
  obtain rfl := DqAll.ints h2
  exact ⟨p', ns, i, rfl, rfl, .inl (same_rd (hide_same _ _) (same_rd (s2.hide hE.wzo) h1)), hi, k3 _ H2 (s1.trans s2) d2 (.int _)⟩
end
end VL
set_option maxHeartbeats 2000000
/-! the value layer: list(zip(a, b)) -/
namespace VL
open PySem
open PySem.Spec
open L2
section raw
variable {prog : Program} {w : World} {A : Around} {E : Value → Shared → Prop} {s : Shared} {z TI TO i1 i2 : Addr} {fp1 fp2 : List Addr} {n1 n2 i : Nat} {P1 P2 : Nat → Value → Prop} {St1 St2 : Nat → Heap → Prop}
/-- next of a zip whose last tuple is kept -/
theorem zh_item {T : Addr} {f : Bool} {oT : Obj} {Q : Value → Shared → Prop} (S : ZipSep2 z TI TO i1 i2 fp1 fp2) (D1 : Draws prog w A i1 fp1 n1 P1 St1) (D2 : Draws prog w A i2 fp2 n2 P2 St2)
    (hz : IsZipHeld s.heap z TI TO T f) (hT : s.heap.get? T = some oT) (hTI : IsTupOf2 s.heap TI (.ref i1) (.ref i2)) (st1 : St1 i s.heap) (st2 : St2 i s.heap) (lt1 : i < n1) (lt2 : i < n2)
    (hQ : ∀ x1 x2 h' tk, P1 i x1 → P2 i x2 → IsZipHeld h' z TI TO T true → St1 (i + 1) h' → St2 (i + 1) h' → IsTupOf2 h' s.heap.objs.size x1 x2 → h'.objs.size = s.heap.objs.size + 1 →
      (∀ c o, c ≠ z → c ≠ i1 → c ≠ i2 → s.heap.get? c = some o → h'.get? c = some o) → Q (.ref s.heap.objs.size) { s with heap := h', toks := tk }) :
    wpAny (model prog w) A (Builtin.«zip.__next__» ⟨[.ref z], []⟩) (fun fin s' => ∃ v, fin = .done (.ret v) ∧ Q v s') E s := by
  obtain ⟨hp, g, d, tk0, os⟩ := s
  show wpAny _ _ (field (.ref z) 2 >>= _) _ _ _
  refine wpAny_bind (wpAny_field hz rfl (x := .bool false) rfl ?_)
  show wpAny _ _ (field (.ref z) 3 >>= _) _ _ _
  refine wpAny_bind (wpAny_field hz rfl (x := .ref TI) rfl ?_)
  refine wpAny_bind (wpAny_seqItems hTI rfl ?_)
  show wpAny _ _ (Builtin.SmallTypes.ownedTupleIsFree (.ref z) >>= _) _ _ _
  refine wpAny_bind (wpAny_tupleHeld_zip hz hT fun g1 za sa => ?_)
  replace sa : Heap.SameBut z hp g1 := sa
  simp only [Bool.false_eq_true, if_false]
  refine wpAny_bind ?_
  rw [← Array.forIn_toList]
  simp only [List.forIn_cons, List.forIn_nil]
  refine wpAny_bind (wpAny_bind (wpAny_holding ?_))
  show wpAny _ _ (Builtin.SmallTypes.nextOf (.ref i1) >>= _) _ _ ⟨g1, g, d, tk0, os⟩
  refine wpAny_bind (D1.item i _ _ _ lt1 (D1.over st1 sa S.zf1) fun x1 g2 tk1 p1 sn1 sb => wpAny_pure ?_)
  replace sb : Heap.SameBut i1 g1 g2 := sb
  refine wpAny_pure ?_
  refine wpAny_bind (wpAny_bind (wpAny_holding ?_))
  show wpAny _ _ (Builtin.SmallTypes.nextOf (.ref i2) >>= _) _ _ ⟨g2, g, d, tk1, os⟩
  refine wpAny_bind (D2.item i _ _ _ lt2 (D2.over (D2.over st2 sa S.zf2) sb S.sep1_2) fun x2 g3 tk2 p2 sn2 sc => wpAny_pure ?_)
  replace sc : Heap.SameBut i2 g2 g3 := sc
  refine wpAny_pure (wpAny_pure ?_)
  show wpAny _ _ (newTuple [x1, x2] >>= _) _ _ ⟨g3, g, d, tk2, os⟩
  refine wpAny_bind (wpAny_newTuple ?_)
  have size3 : g3.objs.size = hp.objs.size := by rw [sc.1, sb.1, sa.1]
  have z3 : IsZipHeld g3 z TI TO T true := sc.extBut _ _ S.zi2 (sb.extBut _ _ S.zi1 za)
  have keep3 : ∀ c o, c ≠ z → c ≠ i1 → c ≠ i2 → hp.get? c = some o → g3.get? c = some o := fun c o c1 c2 c3 e => sc.extBut _ _ c3 (sb.extBut _ _ c2 (sa.extBut _ _ c1 e))
  have sd1 : St1 (i + 1) g3 := D1.over sn1 sc S.sep2_1
  refine wpAny_pure ⟨_, rfl, ?_⟩
  show Q (.ref g3.objs.size) ⟨g3.push { cls := .type "tuple", data := .seq #[x1, x2] }, g, d, tk2, os⟩
  have tp : IsTupOf2 (g3.push { cls := .type "tuple", data := .seq #[x1, x2] }) g3.objs.size x1 x2 := Heap.get?_push_size _ rfl
  have sz : (g3.push { cls := .type "tuple", data := .seq #[x1, x2] }).objs.size = g3.objs.size + 1 := Heap.size_push ..
  rw [size3] at tp sz ⊢
  exact hQ x1 x2 _ tk2 p1 p2 (Heap.get?_push_of_some _ z3) (D1.frame _ _ _ sd1 fun b _ o e => Heap.get?_push_of_some _ e) (D2.frame _ _ _ sn2 fun b _ o e => Heap.get?_push_of_some _ e) tp sz fun c o c1 c2 c3 e => Heap.get?_push_of_some _ (keep3 c o c1 c2 c3 e)
theorem zh_end {T : Addr} {f : Bool} {oT : Obj} {Q : Fin → Shared → Prop} (S : ZipSep2 z TI TO i1 i2 fp1 fp2) (D1 : Draws prog w A i1 fp1 n1 P1 St1) (D2 : Draws prog w A i2 fp2 n2 P2 St2)
    (hz : IsZipHeld s.heap z TI TO T f) (hT : s.heap.get? T = some oT) (hTI : IsTupOf2 s.heap TI (.ref i1) (.ref i2)) (st1 : St1 i s.heap) (st2 : St2 i s.heap) (le1 : i ≤ n1) (le2 : i ≤ n2) (hend : i = n1 ∨ i = n2)
    (hE : ∀ h' tk e, (∀ c o, c ≠ z → c ≠ i1 → c ≠ i2 → s.heap.get? c = some o → h'.get? c = some o) → (∃ o, h'.get? e = some o ∧ o.cls = .type "StopIteration") → E (.ref e) { s with heap := h', toks := tk }) :
    wpAny (model prog w) A (Builtin.«zip.__next__» ⟨[.ref z], []⟩) Q E s := by
  obtain ⟨hp, g, d, tk0, os⟩ := s
  show wpAny _ _ (field (.ref z) 2 >>= _) _ _ _
  refine wpAny_bind (wpAny_field hz rfl (x := .bool false) rfl ?_)
  show wpAny _ _ (field (.ref z) 3 >>= _) _ _ _
  refine wpAny_bind (wpAny_field hz rfl (x := .ref TI) rfl ?_)
  refine wpAny_bind (wpAny_seqItems hTI rfl ?_)
  show wpAny _ _ (Builtin.SmallTypes.ownedTupleIsFree (.ref z) >>= _) _ _ _
  refine wpAny_bind (wpAny_tupleHeld_zip hz hT fun g1 za sa => ?_)
  replace sa : Heap.SameBut z hp g1 := sa
  simp only [Bool.false_eq_true, if_false]
  refine wpAny_bind ?_
  rw [← Array.forIn_toList]
  simp only [List.forIn_cons, List.forIn_nil]
  refine wpAny_bind (wpAny_bind (wpAny_holding ?_))
  show wpAny _ _ (Builtin.SmallTypes.nextOf (.ref i1) >>= _) _ _ ⟨g1, g, d, tk0, os⟩
  by_cases e1 : i = n1
  · subst e1
    refine wpAny_bind (D1.done _ _ _ (D1.over st1 sa S.zf1) fun g2 e sb he => ?_)
    exact hE g2 tk0 e (fun c o c1 c2 _ x => sb _ _ c2 (sa.extBut _ _ c1 x)) he
  · have e2 : i = n2 := by
      rcases hend with q | q
      · exact absurd q e1
      · exact q
    subst e2
    refine wpAny_bind (D1.item i _ _ _ (by omega) (D1.over st1 sa S.zf1) fun x1 g2 tk1 p1 sn1 sb => wpAny_pure ?_)
    replace sb : Heap.SameBut i1 g1 g2 := sb
    refine wpAny_pure ?_
    refine wpAny_bind (wpAny_bind (wpAny_holding ?_))
    show wpAny _ _ (Builtin.SmallTypes.nextOf (.ref i2) >>= _) _ _ ⟨g2, g, d, tk1, os⟩
    refine wpAny_bind (D2.done ⟨g2, g, d, tk1, os⟩ _ _ (D2.over (D2.over st2 sa S.zf2) sb S.sep1_2) fun g3 e sc he => ?_)
    exact hE g3 tk1 e (fun c o c1 c2 c3 x => sc _ _ c3 (sb.extBut _ _ c2 (sa.extBut _ _ c1 x))) he
theorem zh_pyItem {T : Addr} {f : Bool} {oT : Obj} {Q : Option Value → Shared → Prop} (S : ZipSep2 z TI TO i1 i2 fp1 fp2) (D1 : Draws prog w A.in1 i1 fp1 n1 P1 St1) (D2 : Draws prog w A.in1 i2 fp2 n2 P2 St2)
    (hz : IsZipHeld s.heap z TI TO T f) (hT : s.heap.get? T = some oT) (hTI : IsTupOf2 s.heap TI (.ref i1) (.ref i2)) (st1 : St1 i s.heap) (st2 : St2 i s.heap) (lt1 : i < n1) (lt2 : i < n2)
    (hQ : ∀ x1 x2 h' tk, P1 i x1 → P2 i x2 → IsZipHeld h' z TI TO T true → St1 (i + 1) h' → St2 (i + 1) h' → IsTupOf2 h' s.heap.objs.size x1 x2 → h'.objs.size = s.heap.objs.size + 1 →
      (∀ c o, c ≠ z → c ≠ i1 → c ≠ i2 → s.heap.get? c = some o → h'.get? c = some o) → Q (some (.ref s.heap.objs.size)) { s with heap := h', toks := tk }) :
    wpAny (model prog w) A (pyNext (.ref z)) Q E s := by
  have hTy : s.TypeIs (.ref z) "zip" := ⟨_, hz, rfl⟩
  unfold pyNext
  exact wpAny_bind (wpAny_attempt (wpAny_callSpecial?_slot (name := Str.ofString "__next__") hTy F.slot_zip_next
    (wpAny_call_entry F.slot_zip_next hTy F.entry_zip_next
      (zh_item S D1 D2 hz hT hTI st1 st2 lt1 lt2 fun x1 x2 h' tk b1 b2 b3 b4 b5 b6 b7 b8 => wpAny_pure (hQ x1 x2 h' tk b1 b2 b3 b4 b5 b6 b7 b8)) (F.args_zip_next_1 _))))
theorem zh_pyEnd {T : Addr} {f : Bool} {oT : Obj} {Q : Option Value → Shared → Prop} (S : ZipSep2 z TI TO i1 i2 fp1 fp2) (D1 : Draws prog w A.in1 i1 fp1 n1 P1 St1) (D2 : Draws prog w A.in1 i2 fp2 n2 P2 St2)
    (hz : IsZipHeld s.heap z TI TO T f) (hT : s.heap.get? T = some oT) (hTI : IsTupOf2 s.heap TI (.ref i1) (.ref i2)) (st1 : St1 i s.heap) (st2 : St2 i s.heap) (le1 : i ≤ n1) (le2 : i ≤ n2) (hend : i = n1 ∨ i = n2)
    (hQ : ∀ h' tk, (∀ c o, c ≠ z → c ≠ i1 → c ≠ i2 → s.heap.get? c = some o → h'.get? c = some o) → Q none { s with heap := h', toks := tk }) : wpAny (model prog w) A (pyNext (.ref z)) Q E s := by
  have hTy : s.TypeIs (.ref z) "zip" := ⟨_, hz, rfl⟩
  unfold pyNext
  refine wpAny_bind (wpAny_attempt (wpAny_callSpecial?_slot (name := Str.ofString "__next__") hTy F.slot_zip_next
    (wpAny_call_entry F.slot_zip_next hTy F.entry_zip_next (zh_end S D1 D2 hz hT hTI st1 st2 le1 le2 hend fun h' tk e hk he => ?_) (F.args_zip_next_1 _))))
  obtain ⟨o, ho, hc⟩ := he
  refine wpAny_bind (wpAny_isInstance (T := "StopIteration") (b := true) ⟨o, ho, hc⟩ isSubtype_stop ?_)
  exact wpAny_pure (hQ _ _ hk)
theorem zip_no_len : typeLookup (.type "zip") "__len__" = pure none := by rw [typeLookup_type, builtinLookup_eq_fast]; kernel_rfl
theorem zip_no_hint : typeLookup (.type "zip") "__length_hint__" = pure none := by rw [typeLookup_type, builtinLookup_eq_fast]; kernel_rfl
end raw
/-! ### the loop: each pair tracked -/
section
variable {X : Cx} {pins : List (Addr × Obj)} {σ : L2.St}
/-- where the zip stands at the i-th turn -/
def ZAt (H : Hp) (h : Heap) (z TI TO i1 i2 : Addr) (i : Nat) : Prop :=
  IsTupOf2 h TI (.ref i1) (.ref i2) ∧ (∃ o, h.get? TO = some o) ∧ ((i = 0 ∧ IsZip h z TI TO .none ∧ ∃ x y, IsTupOf2 h TO x y) ∨ ∃ T f ts, IsZipHeld h z TI TO T f ∧ H T = some (.tup ts))
/-- the pairs that the list holds -/
def Prs (H0 H : Hp) (xs ys vs : List V) (n : Nat) : Prop := vs.length = n ∧ ∀ j, j < n → ∃ T x y, vs[j]? = some (.ref T) ∧ H0 T = none ∧ H T = some (.tup [x, y]) ∧ xs[j]? = some x ∧ ys[j]? = some y
theorem Prs.snoc {H0 H H' : Hp} {xs ys vs : List V} {n : Nat} (h : Prs H0 H xs ys vs n) (s : ∀ b o, H b = some o → (∃ ts, o = .tup ts) → H' b = some o) {T : Addr} {x y : V} (hn : H0 T = none) (hT : H' T = some (.tup [x, y])) (hx : xs[n]? = some x) (hy : ys[n]? = some y) : Prs H0 H' xs ys (vs ++ [.ref T]) (n + 1) := by
  refine ⟨by rw [List.length_append, h.1]; rfl, fun j hj => ?_⟩
  by_cases q : j < n
  · obtain ⟨T', x', y', h1, h0, h2, h3, h4⟩ := h.2 j q
    exact ⟨T', x', y', by rw [List.getElem?_append_left (by rw [h.1]; exact q)]; exact h1, h0, s _ _ h2 ⟨_, rfl⟩, h3, h4⟩
  · have e : j = n := by omega
    subst e
    exact ⟨T, x, y, by rw [List.getElem?_append_right (by rw [h.1]; exact Nat.le_refl _), h.1, Nat.sub_self]; rfl, hn, hT, hx, hy⟩
theorem lz_loop {A : Around} {R : Result → Shared → Prop} {b1 b2 : Bool} {a1 a2 z TI TO i1 i2 S : Addr} {xs ys : List V} {n : Nat} {res : Value} (hh : A.handled = none) (Sp : ZipSep2 z TI TO i1 i2 [i1, a1] [i2, a2]) (d1 : a1 ≠ i1) (d2 : a2 ≠ i2) (hn : n = min xs.length ys.length) (hnz : n ≤ sizeLine)
    (nS : S ≠ z ∧ S ≠ TI ∧ S ≠ TO ∧ S ≠ i1 ∧ S ≠ i2) (H0 : Hp) (nS1 : H0 S = none) (hxs : ∀ H', Same H0 H' → SqB X.K H' b1 a1 xs) (hys : ∀ H', Same H0 H' → SqB X.K H' b2 a2 ys) :
    ∀ (k i : Nat) (H : Hp) (s : Shared) (its : List Value) (cc : Nat) (vs : List V), n - i = k → i ≤ n → Inv X pins σ H s → (∀ b ∈ [z, TI, TO, i1, i2], FpOk X pins H b) → ZAt H s.heap z TI TO i1 i2 i → IterB b1 s.heap i1 a1 i → IterB b2 s.heap i2 a2 i →
    s.heap.get? S = some { cls := .type "list", data := .seq its.toArray cc } → Vals vs its → H S = some (.lst vs) → Prs H0 H xs ys vs i → Same H0 H →
    (∀ s' H' vs', Inv X pins σ H' s' → Same H0 H' → H' S = some (.lst vs') → Prs H0 H' xs ys vs' n → R (.ok (.ret res)) s') →
    codeAny (model X.prog X.w) A (.builtin "list.extend.loop" ⟨[.ref S, .ref z, res], []⟩) R s := by
  intro k
  induction k with
  | zero =>
    intro i H s its cc vs hk hi I hf zat t1 t2 gS rvs hS hP hs hR
    obtain rfl : i = n := by omega
    refine codeAny_builtin F.entry_extend_loop ?_
    rw [Around.under_plainId F.plain_extend_loop _]
    show wpAny _ A.in1 (pyNext (.ref z) >>= _) _ _ s
    obtain ⟨itx, rx, px⟩ := inv_sqB I (hxs H hs)
    obtain ⟨ity, ry, py⟩ := inv_sqB I (hys H hs)
    have lx := rx.length
    have ly := ry.length
    have hfin : ∀ h' tk, (∀ c o, c ≠ z → c ≠ TO → c ≠ i1 → c ≠ i2 → s.heap.get? c = some o → h'.get? c = some o) → R (.ok (.ret res)) { s with heap := h', toks := tk } := fun h' tk kp =>
      hR _ H vs (I.turnedL (t' := tk) (ch := [z, TI, TO, i1, i2]) (fun c o hb q => kp c o (fun q' => hb (by simp [q'])) (fun q' => hb (by simp [q'])) (fun q' => hb (by simp [q'])) (fun q' => hb (by simp [q'])) q) hf) hs hS hP
    refine wpAny_bind ?_
    obtain ⟨gTI, ⟨oTO, goTO⟩, zz⟩ := zat
    rcases zz with ⟨e0, gz, x0, y0, gTO⟩ | ⟨T, f, ts, gz, hT⟩
    · exact wpAny_pyNext_zipD2_end Sp (drawsB (A := A.in1.in1) hh b1 i1 a1 d1 itx.toArray) (drawsB (A := A.in1.in1) hh b2 i2 a2 d2 ity.toArray) gz gTI gTO ⟨t1, px⟩ ⟨t2, py⟩ (by rw [List.size_toArray]; omega) (by rw [List.size_toArray]; omega) (by rw [List.size_toArray, List.size_toArray]; omega) fun h' tk kp => wpAny_pure (hfin h' tk kp)
    · obtain ⟨_, _, _, oT, goT, _⟩ := I.hok T _ hT
      exact zh_pyEnd Sp (drawsB (A := A.in1.in1) hh b1 i1 a1 d1 itx.toArray) (drawsB (A := A.in1.in1) hh b2 i2 a2 d2 ity.toArray) gz goT gTI ⟨t1, px⟩ ⟨t2, py⟩ (by rw [List.size_toArray]; omega) (by rw [List.size_toArray]; omega) (by rw [List.size_toArray, List.size_toArray]; omega) fun h' tk kp => wpAny_pure (hfin h' tk fun c o c1 _ c3 c4 e => kp c o c1 c3 c4 e)
  | succ k ih =>
    intro i H s its cc vs hk hi I hf zat t1 t2 gS rvs hS hP hs hR
    have hlt : i < n := by omega
    refine codeAny_builtin F.entry_extend_loop ?_
    rw [Around.under_plainId F.plain_extend_loop _]
    show wpAny _ A.in1 (pyNext (.ref z) >>= _) _ _ s
    obtain ⟨itx, rx, px⟩ := inv_sqB I (hxs H hs)
    obtain ⟨ity, ry, py⟩ := inv_sqB I (hys H hs)
    have lx := rx.length
    have ly := ry.length
    have hx1 : i < xs.length := by omega
    have hy1 : i < ys.length := by omega
    obtain ⟨u1, gu1, ru1⟩ := rx.get (List.getElem?_eq_getElem hx1)
    obtain ⟨u2, gu2, ru2⟩ := ry.get (List.getElem?_eq_getElem hy1)
    obtain ⟨gTI, ⟨oTO, goTO⟩, zz⟩ := zat
    obtain ⟨oi1, goi1, _⟩ := iterB_obj t1
    obtain ⟨oi2, goi2, _⟩ := iterB_obj t2
    have lS : S < s.heap.objs.size := Heap.lt_size gS
    -- behind next
    have step : ∀ x1 x2 h' tk, itx.toArray[i]? = some x1 → ity.toArray[i]? = some x2 → (∃ T' f', IsZipHeld h' z TI TO T' f' ∧ (T' = s.heap.objs.size ∨ ∃ ts, H T' = some (.tup ts))) → IterB b1 h' i1 a1 (i + 1) → IterB b2 h' i2 a2 (i + 1) → IsTupOf2 h' s.heap.objs.size x1 x2 → (∃ o, h'.get? TO = some o) →
        (∀ c o, c ≠ z → c ≠ TO → c ≠ i1 → c ≠ i2 → s.heap.get? c = some o → h'.get? c = some o) →
        wpAny (model X.prog X.w) A.in1 (updateSeq S (·.push (.ref s.heap.objs.size)) >>= fun _ => again (.builtin "list.extend.loop" ⟨[.ref S, .ref z, res], []⟩))
          (fun fin s' => match fin with | .done fl => R (.ok fl) s' | .again c' => c'.quiet = true ∧ codeAny (model X.prog X.w) A c' R s') (fun e s' => R (.error e) s') { s with heap := h', toks := tk } := by
      intro x1 x2 h' tk e1 e2 gz' t1' t2' gT gTO' kp
      have q1 : x1 = u1 := by
        rw [List.getElem?_toArray, gu1] at e1
        exact (Option.some.inj e1).symm
      have q2 : x2 = u2 := by
        rw [List.getElem?_toArray, gu2] at e2
        exact (Option.some.inj e2).symm
      subst q1 q2
      have frsh : ObjOk X.prog X.w (upd H s.heap.objs.size (.tup [xs[i], ys[i]])) h' s.heap.objs.size (.tup [xs[i], ys[i]]) :=
        ⟨by show 2 ≤ sizeLine; decide, [x1, x2], .cons ru1 (.cons ru2 .nil), ⟨_, gT, rfl, _, rfl⟩⟩
      have nT := I.hok.fresh (Nat.le_refl s.heap.objs.size)
      have I1 : Inv X pins σ (upd H s.heap.objs.size (.tup [xs[i], ys[i]])) { s with heap := h', toks := tk } :=
        I.turnedNew (t' := tk) (ch := [z, TI, TO, i1, i2]) (fun c o hb q => kp c o (fun q' => hb (by simp [q'])) (fun q' => hb (by simp [q'])) (fun q' => hb (by simp [q'])) (fun q' => hb (by simp [q'])) q) hf (Nat.le_refl _) frsh
      have nST : S ≠ s.heap.objs.size := Nat.ne_of_lt lS
      have gS' : h'.get? S = some { cls := .type "list", data := .seq its.toArray cc } := kp _ _ nS.1 nS.2.2.1 nS.2.2.2.1 nS.2.2.2.2 gS
      have hS1 : upd H s.heap.objs.size (.tup [xs[i], ys[i]]) S = some (.lst vs) := by rw [upd_ne nST]; exact hS
      have rl := rvs.length
      have I2 := I1.lset (t' := tk) (its' := its ++ [.ref s.heap.objs.size]) (ys := vs ++ [.ref s.heap.objs.size]) (f := (·.push (.ref s.heap.objs.size))) hS1 gS' (by simp) (rvs.append (.cons (show RelV (.ref s.heap.objs.size) (.ref s.heap.objs.size) from rfl) .nil)) (by rw [List.length_append, hP.1]; show i + 1 ≤ sizeLine; omega)
      have gS2 := PySem.IsL.update gS' (·.push (.ref s.heap.objs.size))
      rw [List.push_toArray] at gS2
      have oth : ∀ c o, c ≠ S → h'.get? c = some o → (h'.update S (Obj.mapSeq (·.push (.ref s.heap.objs.size)))).get? c = some o := fun c o hc q => (Heap.get?_update_other _ _ (Ne.symm hc)).trans q
      have s1 : Same H (upd H s.heap.objs.size (.tup [xs[i], ys[i]])) := same_new nT _
      refine wpAny_bind (wpAny_updateSeq gS' rfl ?_ (by rw [List.size_toArray, ← rl, hP.1]; omega) (by show (its.toArray.push _).size ≤ sizeLine + 1; rw [Array.size_push, List.size_toArray, ← rl, hP.1]; omega))
      refine wpAny_pure ⟨plainId_quiet F.plain_extend_loop _, ih (i + 1) _ _ (its ++ [.ref s.heap.objs.size]) _ (vs ++ [.ref s.heap.objs.size]) (by omega) hlt I2 (fun b hb => ?_) ⟨?_, ?_⟩ (iterB_at t1' fun o q => oth _ _ nS.2.2.2.1.symm q) (iterB_at t2' fun o q => oth _ _ nS.2.2.2.2.symm q) gS2 (rvs.append (.cons (show RelV (.ref s.heap.objs.size) (.ref s.heap.objs.size) from rfl) .nil)) upd_same ?_ (fun b o q => ?_) hR⟩
      · obtain ⟨f0, f1⟩ := hf b hb
        refine ⟨?_, f1⟩
        have hbS : b ≠ S := fun q => by
          rw [q, hS] at f0
          cases f0
        have hbT : b ≠ s.heap.objs.size := by
          have e' : b = z ∨ b = TI ∨ b = TO ∨ b = i1 ∨ b = i2 := by simpa using hb
          rcases e' with q | q | q | q | q
          · rw [q]
            rcases zz with ⟨_, gz, _⟩ | ⟨_, _, _, gz, _⟩
            · exact Nat.ne_of_lt (Heap.lt_size gz)
            · exact Nat.ne_of_lt (Heap.lt_size gz)
          · rw [q]; exact Nat.ne_of_lt (Heap.lt_size gTI)
          · rw [q]; exact Nat.ne_of_lt (Heap.lt_size goTO)
          · rw [q]; exact Nat.ne_of_lt (Heap.lt_size goi1)
          · rw [q]; exact Nat.ne_of_lt (Heap.lt_size goi2)
        rw [upd_ne hbS, upd_ne hbT]
        exact f0
      · exact oth _ _ nS.2.1.symm (kp _ _ Sp.TIz Sp.TITO Sp.TIi1 Sp.TIi2 gTI)
      · refine ⟨?_, .inr ?_⟩
        · obtain ⟨o, go⟩ := gTO'
          exact ⟨o, oth _ _ nS.2.2.1.symm go⟩
        · obtain ⟨T', f', gz'', hT'⟩ := gz'
          rcases hT' with q | ⟨ts, q⟩
          · exact ⟨T', f', [xs[i], ys[i]], oth _ _ nS.1.symm gz'', by rw [q, upd_ne (Ne.symm nST), upd_same]⟩
          · have n1 : T' ≠ S := fun e => by
              rw [e, hS] at q
              cases q
            exact ⟨T', f', ts, oth _ _ nS.1.symm gz'', by rw [upd_ne n1]; exact s1 _ _ q⟩
      · refine hP.snoc (fun b o q ht => ?_) (T := s.heap.objs.size) (hs.free nT) (by rw [upd_ne (Ne.symm nST), upd_same]) (List.getElem?_eq_getElem hx1) (List.getElem?_eq_getElem hy1)
        obtain ⟨ts, rfl⟩ := ht
        have n1 : b ≠ S := fun e => by
          rw [e, hS] at q
          cases q
        rw [upd_ne n1]
        exact s1 _ _ q
      · have n1 : b ≠ S := fun e => by
          rw [e, nS1] at q
          cases q
        rw [upd_ne n1]
        exact s1 _ _ (hs _ _ q)
    refine wpAny_bind ?_
    have sx : i < itx.toArray.size := by rw [List.size_toArray]; omega
    have sy : i < ity.toArray.size := by rw [List.size_toArray]; omega
    rcases zz with ⟨e0, gz, x0, y0, gTO⟩ | ⟨T, f, ts, gz, hT⟩
    · exact wpAny_pyNext_zipD2_item Sp (drawsB (A := A.in1.in1) hh b1 i1 a1 d1 itx.toArray) (drawsB (A := A.in1.in1) hh b2 i2 a2 d2 ity.toArray) gz gTI gTO ⟨t1, px⟩ ⟨t2, py⟩ sx sy fun x1 x2 h' tk p1 p2 z' TO' w1 w2 gT _ kp =>
        step x1 x2 h' tk p1 p2 ⟨_, false, z', .inl rfl⟩ w1.1 w2.1 gT ⟨_, TO'⟩ kp
    · obtain ⟨_, _, _, oT, goT, _⟩ := I.hok T _ hT
      exact zh_pyItem Sp (drawsB (A := A.in1.in1) hh b1 i1 a1 d1 itx.toArray) (drawsB (A := A.in1.in1) hh b2 i2 a2 d2 ity.toArray) gz goT gTI ⟨t1, px⟩ ⟨t2, py⟩ sx sy fun x1 x2 h' tk p1 p2 z' w1 w2 gT _ kp =>
        step x1 x2 h' tk p1 p2 ⟨T, true, z', .inr ⟨ts, hT⟩⟩ w1.1 w2.1 gT ⟨oTO, kp _ _ Sp.TOz Sp.Ti1 Sp.Ti2 goTO⟩ fun c o c1 _ c3 c4 e => kp c o c1 c3 c4 e
end
end VL
set_option maxHeartbeats 2000000
/-! the value layer: list(zip(a, b)), the call -/
namespace VL
open PySem
open PySem.Spec
open L2
section
variable {X : Cx} {pins : List (Addr × Obj)} {σ : L2.St}
theorem lz_init {A : Around} {R : Result → Shared → Prop} {b1 b2 : Bool} {a1 a2 z TI TO i1 i2 S : Addr} {xs ys : List V} {n : Nat} (hh : A.handled = none) (Sp : ZipSep2 z TI TO i1 i2 [i1, a1] [i2, a2]) (d1 : a1 ≠ i1) (d2 : a2 ≠ i2) (hn : n = min xs.length ys.length) (hnz : n ≤ sizeLine)
    (nS : S ≠ z ∧ S ≠ TI ∧ S ≠ TO ∧ S ≠ i1 ∧ S ≠ i2) (H0 : Hp) (nS1 : H0 S = none) (hxs : ∀ H', Same H0 H' → SqB X.K H' b1 a1 xs) (hys : ∀ H', Same H0 H' → SqB X.K H' b2 a2 ys) {H : Hp} {s : Shared} {cc : Nat} (I : Inv X pins σ H s) (hf : ∀ b ∈ [z, TI, TO, i1, i2], FpOk X pins H b)
    (gz : IsZip s.heap z TI TO .none) (gTI : IsTupOf2 s.heap TI (.ref i1) (.ref i2)) {x0 y0 : Value} (gTO : IsTupOf2 s.heap TO x0 y0) (t1 : IterB b1 s.heap i1 a1 0) (t2 : IterB b2 s.heap i2 a2 0)
    (gS : s.heap.get? S = some { cls := .type "list", data := .seq #[] cc }) (hS : H S = some (.lst [])) (hs : Same H0 H)
    (hR : ∀ s' H' vs', Inv X pins σ H' s' → Same H0 H' → H' S = some (.lst vs') → Prs H0 H' xs ys vs' n → R (.ok (.ret .none)) s') :
    wpAny (model X.prog X.w) A.in1 (Builtin.«list.__init__» ⟨[.ref S, .ref z], []⟩)
      (fun fin s' => match fin with | .done f => R (.ok f) s' | .again c' => c'.quiet = true ∧ codeAny (model X.prog X.w) A c' R s') (fun e s' => R (.error e) s') s := by
  show wpAny _ A.in1 (do let old ← Builtin.List.listItems (.ref S); Builtin.List.listUpdate (.ref S) (fun _ => #[]); letGo old.toList.reverse; Builtin.List.listExtendWith (.ref S) (.ref z) .none) _ _ s
  refine wpAny_bind ?_
  unfold Builtin.List.listItems
  refine wpAny_bind (wpAny_seqItems gS rfl (wpAny_pure ?_))
  show wpAny _ A.in1 (updateSeq S (fun _ => #[]) >>= fun _ => letGo (#[] : Array Value).toList.reverse >>= fun _ => Builtin.List.listExtendWith (.ref S) (.ref z) .none) _ _ s
  have I1 := I.lset (t' := s.toks) (its := []) (its' := []) (ys := []) (f := fun _ => #[]) hS gS rfl .nil (Nat.zero_le _)
  refine wpAny_bind (wpAny_updateSeq gS rfl ?_ (Nat.zero_le _) (Nat.zero_le _))
  have gS1 := PySem.IsL.update gS (fun _ => (#[] : Array Value))
  have oth : ∀ c o, c ≠ S → s.heap.get? c = some o → (s.heap.update S (Obj.mapSeq (fun _ => (#[] : Array Value)))).get? c = some o := fun c o hc q => (Heap.get?_update_other _ _ (Ne.symm hc)).trans q
  generalize eh : s.heap.update S (Obj.mapSeq (fun _ => (#[] : Array Value))) = h1 at gS1 oth I1 ⊢
  refine wpAny_bind (wpAny_letGo ?_)
  have gz1 : IsZip h1 z TI TO .none := oth _ _ nS.1.symm gz
  have hTy : ({ s with heap := h1 } : Shared).TypeIs (.ref z) "zip" := ⟨_, gz1, rfl⟩
  unfold Builtin.List.listExtendWith
  refine wpAny_bind (wpAny_typeOf hTy ?_)
  have e1 : Builtin.List.listSameRef (.ref S) (.ref z) = false := by simp [Builtin.List.listSameRef, nS.1]
  have e2 : (Value.type "zip" == Value.type "list") = false := by decide
  have e3 : (Value.type "zip" == Value.type "tuple") = false := by decide
  simp only [e1, e2, e3, Bool.or_false, Bool.false_eq_true, if_false]
  refine wpAny_bind (wpAny_pyIter_zip gz1 ?_)
  refine wpAny_bind (wpAny_holding ?_)
  unfold Builtin.List.listLengthHint
  refine wpAny_bind (wpAny_specialOf hTy zip_no_len ?_)
  show wpAny _ A.in1 (specialOf (Value.ref z) (Str.ofString "__length_hint__") >>= _) _ _ _
  refine wpAny_bind (wpAny_specialOf hTy zip_no_hint ?_)
  refine wpAny_pure ?_
  show wpAny _ A.in1 (rule "list.extend.makes-room" >>= fun _ => Builtin.List.listTouch (.ref S) >>= fun _ =>
    again (.builtin "list.extend.loop" ⟨[.ref S, .ref z, .none], []⟩)) _ _ _
  refine wpAny_bind (wpAny_rule ?_)
  refine wpAny_bind ?_
  show wpAny _ A.in1 (updateSeq S (·.push .none) >>= fun _ => updateSeq S (·.pop)) _ _ _
  have hS1 : upd H S (.lst []) S = some (.lst []) := upd_same
  have I2 := I1.lset (t' := s.toks) (its := []) (its' := [.none]) (ys := [.non]) (f := (·.push .none)) hS1 gS1 rfl (.cons (show RelV .non .none from rfl) .nil) (by show 1 ≤ sizeLine; rw [sizeLine_eq]; decide)
  refine wpAny_bind (wpAny_updateSeq gS1 rfl ?_ (Nat.zero_le _) (by show 1 ≤ sizeLine + 1; omega))
  have gS2 := PySem.IsL.update gS1 (·.push Value.none)
  have oth2 : ∀ c o, c ≠ S → h1.get? c = some o → (h1.update S (Obj.mapSeq (·.push Value.none))).get? c = some o := fun c o hc q => (Heap.get?_update_other _ _ (Ne.symm hc)).trans q
  generalize eh2 : h1.update S (Obj.mapSeq (·.push Value.none)) = h2 at gS2 oth2 I2 ⊢
  have hS2 : upd (upd H S (.lst [])) S (.lst [.non]) S = some (.lst [.non]) := upd_same
  have I3 := I2.lset (t' := s.toks) (its := [.none]) (its' := []) (ys := []) (f := (·.pop)) hS2 gS2 rfl .nil (Nat.zero_le _)
  refine wpAny_updateSeq gS2 rfl ?_ (by show 1 ≤ sizeLine; rw [sizeLine_eq]; decide) (Nat.zero_le _)
  have gS3 := PySem.IsL.update gS2 (·.pop)
  have oth3 : ∀ c o, c ≠ S → h2.get? c = some o → (h2.update S (Obj.mapSeq (·.pop))).get? c = some o := fun c o hc q => (Heap.get?_update_other _ _ (Ne.symm hc)).trans q
  generalize eh3 : h2.update S (Obj.mapSeq (·.pop)) = h3 at gS3 oth3 I3 ⊢
  have all : ∀ c o, c ≠ S → s.heap.get? c = some o → h3.get? c = some o := fun c o hc q => oth3 _ _ hc (oth2 _ _ hc (oth _ _ hc q))
  rw [upd_upd, upd_upd] at I3
  have eH : upd H S (.lst []) = H := by
    funext b
    by_cases q : b = S
    · rw [q, upd_same, hS]
    · rw [upd_ne q]
  rw [eH] at I3
  refine wpAny_pure ⟨plainId_quiet F.plain_extend_loop _, lz_loop hh Sp d1 d2 hn hnz nS H0 nS1 hxs hys n 0 H { s with heap := h3 } [] _ [] (Nat.sub_zero _) (Nat.zero_le _) I3 hf ⟨all _ _ nS.2.1.symm gTI, ⟨_, all _ _ nS.2.2.1.symm gTO⟩, .inl ⟨rfl, all _ _ nS.1.symm gz, _, _, all _ _ nS.2.2.1.symm gTO⟩⟩
    (iterB_at t1 fun o q => all _ _ nS.2.2.2.1.symm q) (iterB_at t2 fun o q => all _ _ nS.2.2.2.2.symm q) gS3 .nil hS ⟨rfl, fun j hj => absurd hj (Nat.not_lt_zero _)⟩ hs hR⟩
/-- list(z), z a zip just made -/
theorem lz_call {Q : Value → Shared → Prop} {b1 b2 : Bool} {a1 a2 z TI TO i1 i2 : Addr} {xs ys : List V} {n : Nat} (hh : X.A.handled = none) (Sp : ZipSep2 z TI TO i1 i2 [i1, a1] [i2, a2]) (d1 : a1 ≠ i1) (d2 : a2 ≠ i2) (hn : n = min xs.length ys.length) (hnz : n ≤ sizeLine)
    {H : Hp} {s : Shared} (hxs : ∀ H', Same H H' → SqB X.K H' b1 a1 xs) (hys : ∀ H', Same H H' → SqB X.K H' b2 a2 ys) (I : Inv X pins σ H s) (hf : ∀ b ∈ [z, TI, TO, i1, i2], FpOk X pins H b)
    (gz : IsZip s.heap z TI TO .none) (gTI : IsTupOf2 s.heap TI (.ref i1) (.ref i2)) {x0 y0 : Value} (gTO : IsTupOf2 s.heap TO x0 y0) (t1 : IterB b1 s.heap i1 a1 0) (t2 : IterB b2 s.heap i2 a2 0)
    (hQ : ∀ s' H' vs' S, Inv X pins σ H' s' → Same H H' → H S = none → H' S = some (.lst vs') → Prs H H' xs ys vs' n → Q (.ref S) s') : wpAny (model X.prog X.w) X.A (call (.type "list") [.ref z]) Q X.xe s := by
  refine callType_codes (Q₁ := fun obj s₁ => obj = .ref s.heap.objs.size ∧ s₁ = { s with heap := s.heap.push { cls := .type "list", data := .seq #[] } }) F.called_list (F.typeCall_list_1 _) F.entry_list_init
    (code_list_new _ ⟨rfl, rfl⟩) fun obj s₁ h₁ => ?_
  obtain ⟨rfl, rfl⟩ := h₁
  have gS : (s.heap.push { cls := .type "list", data := .seq #[] }).get? s.heap.objs.size = some { cls := .type "list", data := .seq #[] } := Heap.get?_push_size _ rfl
  have nS := I.hok.fresh (Nat.le_refl s.heap.objs.size)
  have I1 : Inv X pins σ (upd H s.heap.objs.size (.lst [])) { s with heap := s.heap.push { cls := .type "list", data := .seq #[] } } := I.laid (t' := s.toks) (fun _ _ q => Heap.get?_push_of_some _ q) (Nat.le_refl _) ⟨Nat.zero_le _, [], 0, .nil, gS⟩
  have up : ∀ b o, s.heap.get? b = some o → (s.heap.push { cls := .type "list", data := .seq #[] }).get? b = some o := fun b o q => Heap.get?_push_of_some _ q
  obtain ⟨oi1, goi1, _⟩ := iterB_obj t1
  obtain ⟨oi2, goi2, _⟩ := iterB_obj t2
  refine ⟨⟨_, gS, rfl⟩, F.args_list_init_2 _ _, lz_init (A := X.A.in1) (S := s.heap.objs.size) hh Sp d1 d2 hn hnz ⟨Ne.symm (Nat.ne_of_lt (Heap.lt_size gz)), Ne.symm (Nat.ne_of_lt (Heap.lt_size gTI)), Ne.symm (Nat.ne_of_lt (Heap.lt_size gTO)), Ne.symm (Nat.ne_of_lt (Heap.lt_size goi1)), Ne.symm (Nat.ne_of_lt (Heap.lt_size goi2))⟩ H nS hxs hys I1 (fun b hb => ?_)
    (up _ _ gz) (up _ _ gTI) (up _ _ gTO) (iterB_at t1 fun o q => up _ _ q) (iterB_at t2 fun o q => up _ _ q) gS upd_same (same_new nS _) fun s' H' vs' J hs hS hP => ⟨rfl, hQ s' H' vs' _ J hs nS hS hP⟩⟩
  obtain ⟨f0, f1⟩ := hf b hb
  have hlt : b ≠ s.heap.objs.size := by
    have e' : b = z ∨ b = TI ∨ b = TO ∨ b = i1 ∨ b = i2 := by simpa using hb
    rcases e' with q | q | q | q | q
    · rw [q]; exact Nat.ne_of_lt (Heap.lt_size gz)
    · rw [q]; exact Nat.ne_of_lt (Heap.lt_size gTI)
    · rw [q]; exact Nat.ne_of_lt (Heap.lt_size gTO)
    · rw [q]; exact Nat.ne_of_lt (Heap.lt_size goi1)
    · rw [q]; exact Nat.ne_of_lt (Heap.lt_size goi2)
  exact ⟨by rw [upd_ne hlt]; exact f0, f1⟩
def tLz (X : Cx) (b1 b2 : Bool) (ta : TA) : TE := fun σ H Q => ta σ H fun vs H1 => ∃ a1 a2 xs ys, vs = [.ref a1, .ref a2] ∧ (∀ H', Same H1 H' → SqB X.K H' b1 a1 xs) ∧ (∀ H', Same H1 H' → SqB X.K H' b2 a2 ys) ∧ min xs.length ys.length ≤ sizeLine ∧
  ∀ S H2 vs', Same H1 H2 → H1 S = none → H2 S = some (.lst vs') → Prs H1 H2 xs ys vs' (min xs.length ys.length) → Q (.ref S) H2
theorem pe_lz {e e2 : Expr} {ta : TA} {p pos p2 pos2 : Pos} (b1 b2 : Bool) (hc : X.calm = true) (hg : Gl X "zip") (hm : X.mg "zip" = none) (hg2 : Gl X "list") (hm2 : X.mg "list" = none) (ha : PA X [e, e2] ta)
    (hs : starEach [e, e2] X.env = (false, eval e X.env) :: starEach [e2] X.env := by rfl) (hpl : (backTo pos (starEach [e2] X.env)).any (·.1) = false := by rfl)
    (na : starEach [.Call (.Name "zip" p) [e, e2] [] pos] X.env = (false, eval (.Call (.Name "zip" p) [e, e2] [] pos) X.env) :: starEach [] X.env := by rfl) :
    PE X (.Call (.Name "list" p2) [.Call (.Name "zip" p) [e, e2] [] pos] [] pos2) (tLz X b1 b2 ta) := by
  refine ⟨fun pins s σ H Q I h => ?_⟩
  refine PyProof.Rows.Call_ (ld_blt I hg2 hm2 PyProof.Rows.boot_list (PyProof.Rows.callWith_type1 (PyProof.Rows.args_cons (PyProof.Rows.Call_ (ld_blt I hg hm PyProof.Rows.boot_zip (PyProof.Rows.callWith_type1 (thn (ha.run pos pins s σ H _ I h) fun us s1 ⟨vs, H1, I1, r1, q1⟩ => ?_) hs hpl))) na) na))
  obtain ⟨a1, a2, xs, ys, rfl, hx, hy, hz, q⟩ := q1
  cases r1 with
  | cons r rr =>
    cases rr with
    | cons r' rr =>
      cases rr
      cases r
      cases r'
      obtain ⟨itx, rx, px⟩ := inv_sqB I1 (hx _ (Same.refl _))
      obtain ⟨ity, ry, py⟩ := inv_sqB I1 (hy _ (Same.refl _))
      have la := heapB_lt px
      have lb := heapB_lt py
      refine zip_begins2 (begB b1 a1 itx.toArray) (begB b2 a2 ity.toArray) px py fun h' zz zTI zTO z1 z2 zsz kp => PyProof.Rows.args_nil ?_
      have I2 : Inv X pins σ H1 { s1 with heap := h' } := I1.kept (t' := s1.toks) kp
      refine lz_call (I1.ok.hd hc) (sepB la lb) (Nat.ne_of_lt la) (Nat.ne_of_lt (Nat.lt_succ_of_lt lb)) rfl hz hx hy I2 (fun b hb => ?_) zz zTI zTO (iterB_new z1) (iterB_new z2) fun s' H' vs' S J hs hn hS hP => ⟨.ref S, H', J, rfl, q S H' vs' hs hn hS hP⟩
      have e' : b = s1.heap.objs.size + 4 ∨ b = s1.heap.objs.size + 2 ∨ b = s1.heap.objs.size + 3 ∨ b = s1.heap.objs.size ∨ b = s1.heap.objs.size + 1 := by simpa using hb
      have hle : s1.heap.objs.size ≤ b := by
        rcases e' with z | z | z | z | z
        · rw [z]; exact Nat.le_add_right _ _
        · rw [z]; exact Nat.le_add_right _ _
        · rw [z]; exact Nat.le_add_right _ _
        · rw [z]; exact Nat.le_refl _
        · rw [z]; exact Nat.le_add_right _ _
      exact I1.fpOk hle (I1.hok.fresh hle)
/-! ### by data -/
/-- a thing without parts -/
def flatD : D → Bool
  | .none => true
  | .bool _ => true
  | .int _ => true
  | .str _ => true
  | _ => false
theorem flat_dz {K : PySem.W.Frag} {H : Hp} {v : V} {d : D} (h : Dq K H v d) (f : flatD d = true) : Dz K H v d := by
  cases h with
  | non => exact .non
  | bl b => exact .bl b
  | int i => exact .int i
  | str x => exact .str x
  | lst _ _ => cases f
  | tup _ _ => cases f
  | emp _ => cases f
  | fn _ => cases f
def lzD (b1 b2 : Bool) : List D → Option D
  | [d, e] => (seqB b1 d).bind fun xs => (seqB b2 e).bind fun ys => if (xs.all flatD && ys.all flatD && decide (min xs.length ys.length ≤ lineN)) = true then some (.list (zipD xs ys)) else none
  | _ => none
theorem Res.dq {K : PySem.W.Frag} {H : Hp} {k : Kd} {d : D} {v : V} (h : Res K H (itemK k) d v) : Dq K H v d := by
  rcases itemK_or k with q | q
  · rw [q] at h; exact h
  · rw [q] at h; exact Dz.dq h
theorem all_get {xs : List D} {f : D → Bool} (h : xs.all f = true) {i : Nat} {d : D} (e : xs[i]? = some d) : f d = true := List.all_eq_true.mp h d (List.mem_of_getElem? e)
theorem prs_dz {K : PySem.W.Frag} {Zs : List Addr} {H1 H2 : Hp} {xs ys vs : List V} {ds es : List D} {n : Nat} {k1 k2 : Kd} (h1 : ItemsR K (hide Zs H1) (itemK k1) xs ds) (h2 : ItemsR K (hide Zs H1) (itemK k2) ys es) (f1 : ds.all flatD = true) (f2 : es.all flatD = true) (hz : ∀ z ∈ Zs, H1 z ≠ none)
    (s : Same (hide Zs H1) (hide Zs H2)) (h : Prs H1 H2 xs ys vs n) (hn : n = min xs.length ys.length) : DzAll K (hide Zs H2) vs (zipD ds es) := by
  have len : vs.length = (zipD ds es).length := by rw [zipD_len, h.1, hn, h1.1, h2.1]
  have gen : ∀ (vs : List V) (zs : List D), vs.length = zs.length → (∀ (j : Nat) (v : V) (d : D), vs[j]? = some v → zs[j]? = some d → Dz K (hide Zs H2) v d) → DzAll K (hide Zs H2) vs zs := by
    intro vs
    induction vs with
    | nil =>
      intro zs hl _
      cases zs with
      | nil => exact .nil
      | cons _ _ => cases hl
    | cons v vs ih =>
      intro zs hl f
      cases zs with
      | nil => cases hl
      | cons d zs => exact .cons (f 0 v d rfl rfl) (ih zs (by simpa using hl) fun j w e a b => f (j + 1) w e (by simpa using a) (by simpa using b))
  refine gen vs _ len fun j v d e1 e2 => ?_
  have hj : j < n := by rw [← h.1]; exact (List.getElem?_eq_some_iff.mp e1).1
  obtain ⟨T, x, y, g1, g0, g2, g3, g4⟩ := h.2 j hj
  rw [e1] at g1
  cases g1
  have jx : j < ds.length := by rw [← h1.1]; exact (List.getElem?_eq_some_iff.mp g3).1
  have jy : j < es.length := by rw [← h2.1]; exact (List.getElem?_eq_some_iff.mp g4).1
  obtain ⟨x', q1, q2⟩ := h1.2 j _ (List.getElem?_eq_getElem jx)
  obtain ⟨y', q3, q4⟩ := h2.2 j _ (List.getElem?_eq_getElem jy)
  rw [g3] at q1
  cases q1
  rw [g4] at q3
  cases q3
  rw [zipD_get (List.getElem?_eq_getElem jx) (List.getElem?_eq_getElem jy)] at e2
  cases e2
  have nT : T ∉ Zs := fun q => hz T q g0
  refine Dz.tup (by rw [hide_ne nT]; exact g2) (.cons (flat_dz (Dq.mono s q2.dq) ?_) (.cons (flat_dz (Dq.mono s q4.dq) ?_) .nil))
  · exact all_get f1 (List.getElem?_eq_getElem jx)
  · exact all_get f2 (List.getElem?_eq_getElem jy)
variable {c : Ct} {U Un UL : List Nat}
theorem fr_lz (b1 b2 : Bool) {k1 k2 : Kd} {e e2 : Expr} {F : SE → M (List D)} {p pos p2 pos2 : Pos} (hc : X.calm = true) (hm : X.mg "zip" = none) (hm2 : X.mg "list" = none) (h : FA X c U [e, e2] [k1, k2] F) (hg : Gl X "zip" := by rfl) (hg2 : Gl X "list" := by rfl)
    (hs : starEach [e, e2] X.env = (false, eval e X.env) :: starEach [e2] X.env := by rfl) (hpl : (backTo pos (starEach [e2] X.env)).any (·.1) = false := by rfl)
    (na : starEach [.Call (.Name "zip" p) [e, e2] [] pos] X.env = (false, eval (.Call (.Name "zip" p) [e, e2] [] pos) X.env) :: starEach [] X.env := by rfl) :
    FR X c U .pl (.Call (.Name "list" p2) [.Call (.Name "zip" p) [e, e2] [] pos] [] pos2) (eL (lzD b1 b2) F) := by
  obtain ⟨t, pa, ra⟩ := h
  refine ⟨_, pe_lz b1 b2 hc hg hm hg2 hm2 pa hs hpl na, fun Z H0 O en σ H m Q hE hG => ra Z H0 O en σ H m _ hE (hG.bd.mono (fun ds m1 kk1 vs H1 s1 d1 q1 => ?_) fun _ _ k => k)⟩
  obtain ⟨r, hr, kk2⟩ := kk1.lft
  obtain ⟨v, w, d, d', rfl, rfl, q5, q6⟩ := q1.two
  obtain ⟨xs, hx1, hx2⟩ := Option.bind_eq_some_iff.mp hr
  obtain ⟨ys, hx3, hx4⟩ := Option.bind_eq_some_iff.mp hx2
  by_cases hb : (xs.all flatD && ys.all flatD && decide (min xs.length ys.length ≤ lineN)) = true
  · rw [if_pos hb] at hx4
    cases hx4
    obtain ⟨hb1, hb2⟩ := Bool.and_eq_true_iff.mp hb
    obtain ⟨hb3, hb4⟩ := Bool.and_eq_true_iff.mp hb1
    obtain ⟨a, ws, rfl, g1, g2⟩ := q5.seqI hx1
    obtain ⟨a', ws', rfl, g1', g2'⟩ := q6.seqI hx3
    have E1 := hE.step s1 d1
    have lift : ∀ H', Same H1 H' → Same (hide (ZO Z O) H1) H' := fun H' s => Same.trans (hide_same _ _) s
    refine ⟨a, a', ws, ws', rfl, fun H' s => g1 H' (lift H' s), fun H' s => g1' H' (lift H' s), by rw [g2.1, g2'.1]; exact Nat.le_trans (of_decide_eq_true hb2) lineN_le, fun S H2 vs' s2 n2 hS hP => ?_⟩
    have nS : S ∉ ZO Z O := fun q => E1.zt S q n2
    have sw : SameW c.W H1 H2 := .of s2
    refine kk2 _ H2 (s1.trans sw) (d1.same s2) (Dz.lst (Rd.of (by rw [hide_ne nS]; exact hS)) (prs_dz g2 g2' hb3 hb4 E1.zt (sw.hide hE.wzo) hP rfl))
  · rw [if_neg hb] at hx4
    cases hx4
end
end VL
/-! the value layer: comprehensions of two clauses -/
namespace VL
open PySem
open PySem.Spec
open L2
section
variable {X : Cx} {c : Ct} {U Un UL : List Nat}
def tI (X : Cx) (c : Ct) (U : List Nat) (k : Kd) (F : SE → M (List D)) : TI := fun σ H R => ∃ Z H0 O en m, EnvOk X.K c.W c.ms c.dk Z H0 U O en σ H m ∧
    Good (F en m) (fun ds m' => ∀ J H1, SameW c.W H H1 → DrawOk c.W H1 m' → Walk J ds.length (fun H' => Same (hide (ZO Z O) H1) H') (YD X.K (ZO Z O) H1 k ds) → R J H1) (fun _ _ => False)
theorem FI.pi {k : Kd} {tg e : Expr} {F : SE → M (List D)} (h : FI X c U k tg e F) : PI X tg e (tI X c U k F) := by
  obtain ⟨t, p, r⟩ := h
  refine ⟨fun pins s σ H Q I q => p.run pins s σ H Q I ?_⟩
  obtain ⟨Z, H0, O, en, m, hE, hG⟩ := q
  exact r Z H0 O en σ H m Q hE (hG.mono (fun _ _ k => k) fun _ _ k => k.elim)
def lcLL (f : D → M (List D)) : List D → M (List D)
  | [] => pure []
  | d :: ds => do
    let o ← f d
    let r ← lcLL f ds
    pure (o ++ r)
def lc2Step (G : D → SE → M SE) (T : SE → M Bool) (It1 : SE → M (List D)) (G1 : D → SE → M SE) (T1 : SE → M Bool) (El : SE → M D) (vs1 : List Nat) (en : SE) : D → M (List D) := fun d => do
  let e1 ← G d en
  let b ← T e1
  if b = true then do
    let ds ← It1 e1
    lcL (lcStep G1 T1 El (wipeE e1 vs1)) ds
  else pure []
def lc2F (It : SE → M (List D)) (G : D → SE → M SE) (T : SE → M Bool) (It1 : SE → M (List D)) (G1 : D → SE → M SE) (T1 : SE → M Bool) (El : SE → M D) (vs vs1 : List Nat) : SE → M D := fun en => nox do
  let ds ← It en
  let rs ← lcLL (lc2Step G T It1 G1 T1 El vs1 (wipeE en vs)) ds
  if rs.length ≤ lineN then pure (.list rs) else M.no
theorem lc2_read {k k1 ke : Kd} (hke : toDat ke = true) {is is1 : List Nat} {It It1 : SE → M (List D)} {G G1 : D → SE → M SE} {T T1 : SE → M Bool} {El : SE → M D} {vs vs1 : List Nat} {wi : TI}
    (ri : ∀ Z H0 O en σ H m R, EnvOk X.K c.W c.ms c.dk Z H0 U O en σ H m → Good (It en m) (fun ds m' => ∀ J H1, SameW c.W H H1 → DrawOk c.W H1 m' → Walk J ds.length (fun H' => Same (hide (ZO Z O) H1) H') (YD X.K (ZO Z O) H1 k ds) → R J H1) (fun x m' => ExK X c (ZO Z O) σ H x m') → wi σ H R)
    (his : ∀ i ∈ is, i ∈ vs) (his1 : ∀ i ∈ is1, i ∈ vs1) (hsub : ∀ i ∈ vs1, i ∈ vs) (hU : ∀ i ∈ vs, i ∉ U) (hms : ∀ i ∈ vs, i ∉ c.ms) {Z : List Addr} {H0 : Hp} {O : List (Nat × Addr)} {en : SE} {σ : L2.St} {H : Hp} {m : MS} {Q : VK} {R : Exn → MS → Prop} (hE : EnvOk X.K c.W c.ms c.dk Z H0 U O en σ H m)
    (hG : Good (lc2F It G T It1 G1 T1 El vs vs1 en m) (fun d m' => ∀ a ws xs H', d = .list xs → SameW c.W H H' → DrawOk c.W H' m' → H a = none → H' a = some (.lst ws) → ItK X.K (hide (a :: ZO Z O) H') ke ws xs → Q (.ref a) H') R) :
    tLc2 wi (tG X c U k is G) (tT X c U T) (tI X c U k1 It1) (tG X c U k1 is1 G1) (tT X c U T1) (tE X c U ke El) vs vs1 σ H Q := by
  refine ri Z H0 O en σ H m _ hE (hG.nox.bd.mono (fun ds m1 kk1 J H1 s1 d1 wk a na => ?_) fun _ _ k => k.elim)
  have nH : H a = none := none_step s1 d1 na
  have n0 : H0 a = none := hE.none0 nH
  have su : SameW c.W H1 (upd H1 a (.lst [])) := .of (same_new na _)
  have hw := hE.wzo
  have nw := (hE.step s1 d1).nw0 n0
  have na0 : ∀ w, c.W = some w → a ≠ w.am ∧ a ≠ w.gA := fun w q => ⟨(nw w q).1, (nw w q).2.2⟩
  have E0 : EnvOk X.K c.W c.ms c.dk (a :: Z) H0 U O en σ (upd H1 a (.lst [])) m1 := hE.temp (s1.trans su) (d1.same (same_new na _)) nH (by rw [upd_same]; exact fun x => nomatch x)
  generalize hF : (fun (xs : List D) (m' : MS) => Good ((if xs.length ≤ lineN then pure (.list xs) else M.no : M D) m') (fun d m' => ∀ a ws xs H', d = .list xs → SameW c.W H H' → DrawOk c.W H' m' → H a = none → H' a = some (.lst ws) → ItK X.K (hide (a :: ZO Z O) H') ke ws xs → Q (.ref a) H') (fun _ _ => False)) = FIN
  have fin_len : ∀ xs m', FIN xs m' → xs.length ≤ lineN := fun xs m' h => by
    rw [← hF] at h
    by_cases hz : xs.length ≤ lineN
    · exact hz
    · rw [if_neg hz] at h
      exact h.elim
  have kk1 : Good ((lcLL (lc2Step G T It1 G1 T1 El vs1 (wipeE en vs)) ds >>= fun rs => (if rs.length ≤ lineN then pure (.list rs) else M.no : M D)) m1) _ _ := kk1
  have kk2 : Good (lcLL (lc2Step G T It1 G1 T1 El vs1 (wipeE en vs)) (ds.drop 0) m1) (fun rs m'' => FIN ([] ++ rs) m'') (fun _ _ => False) := by
    rw [← hF, List.drop_zero]
    exact kk1.bd
  refine ⟨fun i mm H' => mm = ds.length - i ∧ i ≤ ds.length ∧ ∃ m' ws acc, EnvOk X.K c.W c.ms c.dk (a :: Z) H0 U O en σ H' m' ∧ SameW c.W H1 H' ∧ H' a = some (.lst ws) ∧ ItK X.K (hide (a :: ZO Z O) H') ke ws acc ∧
    Good (lcLL (lc2Step G T It1 G1 T1 El vs1 (wipeE en vs)) (ds.drop i) m') (fun rs m'' => FIN (acc ++ rs) m'') (fun _ _ => False), ⟨ds.length, by simp, Nat.zero_le _, m1, [], [], E0, su, upd_same, ItK.nil, kk2⟩, ?_⟩
  rintro i mm H3 ⟨rfl, hi, m', ws, acc, E, s, ha, hI, hg⟩
  have hsm : Same (hide (ZO Z O) H1) H3 := Same.trans (s.hide hw) (hide_same _ _)
  by_cases hlt : i < ds.length
  · refine .inr ⟨wk.goes i H3 hlt hsm, fun H' => ∃ m' ws acc, EnvOk X.K c.W c.ms c.dk (a :: Z) H0 U O en σ H' m' ∧ SameW c.W H1 H' ∧ H' a = some (.lst ws) ∧ ItK X.K (hide (a :: ZO Z O) H') ke ws acc ∧
      Good (lcLL (lc2Step G T It1 G1 T1 El vs1 (wipeE en vs)) (ds.drop (i + 1)) m') (fun rs m'' => FIN (acc ++ rs) m'') (fun _ _ => False), fun H' hh => ⟨ds.length - (i + 1), by omega, rfl, hlt, hh⟩, fun x H4 y => ?_⟩
    obtain ⟨sy, d, hd, hr⟩ := wk.yields i H3 x H4 hlt hsm y
    have e : ds.drop i = d :: ds.drop (i + 1) := by
      rw [List.drop_eq_getElem_cons hlt]
      rw [List.getElem?_eq_getElem hlt] at hd
      cases hd
      rfl
    rw [e] at hg
    have Eg := (E.grow sy).wiped hU hms
    refine ⟨a :: Z, H0, O, wipeE en vs, m', d, Eg, hr _ E.zt (hide_temp s hw na), ?_⟩
    have hg : Good (((lc2Step G T It1 G1 T1 El vs1 (wipeE en vs) d) >>= fun o => lcLL (lc2Step G T It1 G1 T1 El vs1 (wipeE en vs)) (ds.drop (i + 1)) >>= fun r => pure (o ++ r)) m') _ _ := hg
    refine (show Good ((G d (wipeE en vs) >>= fun e1 => T e1 >>= fun b => (if b = true then (It1 e1 >>= fun ds1 => lcL (lcStep G1 T1 El (wipeE e1 vs1)) ds1) else pure [] : M (List D))) m') _ _ from hg.bd).bdT.mono (fun e1 m2 k2 σ2 H5 s5 w5 E5 => ?_) fun _ _ _ => trivial
    refine ⟨(w5 vs his).trans wipe_wipe, a :: Z, H0, O, e1, m2, E5, k2.bd.mono (fun b m3 k3 H6 s6 d6 => ?_) fun _ _ k => k⟩
    have s36 : SameW c.W H3 H6 := (SameW.of sy).trans (s5.trans s6)
    have E6 : EnvOk X.K c.W c.ms c.dk (a :: Z) H0 U O en σ H6 m3 := E.step s36 d6
    have ha6 : H6 a = some (.lst ws) := s36 a _ na0 ha
    have E6' := E5.step s6 d6
    cases b with
    | false =>
      refine ⟨m3, ws, acc, E6, s.trans s36, ha6, hI.mono (s36.hide E.wzo), ?_⟩
      have k5 := Good.bd (show Good ((lcLL (lc2Step G T It1 G1 T1 El vs1 (wipeE en vs)) (ds.drop (i + 1)) >>= fun r => pure ([] ++ r)) m3) _ _ from k3)
      exact k5
    | true =>
      have k3 : Good ((It1 e1 >>= fun ds1 => lcL (lcStep G1 T1 El (wipeE e1 vs1)) ds1) m3) _ _ := k3
      refine ⟨a :: Z, H0, O, e1, m3, E6', k3.bd.mono (fun ds1 m4 k4 J1 H7 s7 d7 wk1 => ?_) fun _ _ k => k⟩
      have E7' := E6'.step s7 d7
      have s17 : SameW c.W H1 H7 := s.trans (s36.trans s7)
      have ha7 : H7 a = some (.lst ws) := (s36.trans s7) a _ na0 ha
      have hw1 := E6'.wzo
      refine ⟨fun j mm H' => mm = ds1.length - j ∧ j ≤ ds1.length ∧ ∃ m' ws acc, EnvOk X.K c.W c.ms c.dk (a :: Z) H0 U O e1 σ2 H' m' ∧ EnvOk X.K c.W c.ms c.dk (a :: Z) H0 U O en σ H' m' ∧ SameW c.W H1 H' ∧ Same (hide (ZO (a :: Z) O) H7) (hide (ZO (a :: Z) O) H') ∧ H' a = some (.lst ws) ∧ ItK X.K (hide (a :: ZO Z O) H') ke ws acc ∧
        Good (lcL (lcStep G1 T1 El (wipeE e1 vs1)) (ds1.drop j) m') (fun rs m'' => Good (lcLL (lc2Step G T It1 G1 T1 El vs1 (wipeE en vs)) (ds.drop (i + 1)) m'') (fun rs2 m3 => FIN (acc ++ rs ++ rs2) m3) (fun _ _ => False)) (fun _ _ => False),
        ⟨ds1.length, by simp, Nat.zero_le _, m4, ws, acc, E7', E6.step s7 d7, s17, Same.refl _, ha7, hI.mono ((s36.trans s7).hide E.wzo), ?_⟩, ?_⟩
      · rw [List.drop_zero]
        refine Good.mono k4 (fun rs m5 k5 => ?_) fun _ _ k => k
        have k6 := Good.bd (show Good ((lcLL (lc2Step G T It1 G1 T1 El vs1 (wipeE en vs)) (ds.drop (i + 1)) >>= fun r => pure (rs ++ r)) m5) _ _ from k5)
        refine k6.mono (fun rs2 m6 k7 => ?_) fun _ _ k => k
        rw [List.append_assoc]
        exact k7
      · rintro j mm H8 ⟨rfl, hj, m5, ws5, acc5, E8', E8, s18, s78, ha8, hI8, hg8⟩
        have hsm1 : Same (hide (ZO (a :: Z) O) H7) H8 := Same.trans s78 (hide_same _ _)
        by_cases hlt1 : j < ds1.length
        · refine .inr ⟨wk1.goes j H8 hlt1 hsm1, fun H' => ∃ m' ws acc, EnvOk X.K c.W c.ms c.dk (a :: Z) H0 U O e1 σ2 H' m' ∧ EnvOk X.K c.W c.ms c.dk (a :: Z) H0 U O en σ H' m' ∧ SameW c.W H1 H' ∧ Same (hide (ZO (a :: Z) O) H7) (hide (ZO (a :: Z) O) H') ∧ H' a = some (.lst ws) ∧ ItK X.K (hide (a :: ZO Z O) H') ke ws acc ∧
            Good (lcL (lcStep G1 T1 El (wipeE e1 vs1)) (ds1.drop (j + 1)) m') (fun rs m'' => Good (lcLL (lc2Step G T It1 G1 T1 El vs1 (wipeE en vs)) (ds.drop (i + 1)) m'') (fun rs2 m3 => FIN (acc ++ rs ++ rs2) m3) (fun _ _ => False)) (fun _ _ => False), fun H' hh => ⟨ds1.length - (j + 1), by omega, rfl, hlt1, hh⟩, fun x1 H9 y1 => ?_⟩
          obtain ⟨sy1, d1', hd1, hr1⟩ := wk1.yields j H8 x1 H9 hlt1 hsm1 y1
          have e' : ds1.drop j = d1' :: ds1.drop (j + 1) := by
            rw [List.drop_eq_getElem_cons hlt1]
            rw [List.getElem?_eq_getElem hlt1] at hd1
            cases hd1
            rfl
          rw [e'] at hg8
          have Eg1 := (E8'.grow sy1).wiped (fun i hi => hU i (hsub i hi)) (fun i hi => hms i (hsub i hi))
          refine ⟨a :: Z, H0, O, wipeE e1 vs1, m5, d1', Eg1, hr1 _ E8'.zt s78, ?_⟩
          have hg8 : Good (((lcStep G1 T1 El (wipeE e1 vs1) d1') >>= fun o => lcL (lcStep G1 T1 El (wipeE e1 vs1)) (ds1.drop (j + 1)) >>= fun r => pure (lcC o r)) m5) _ _ := hg8
          refine (show Good ((G1 d1' (wipeE e1 vs1) >>= fun e2 => T1 e2 >>= fun b => (if b = true then (El e2 >>= fun v => pure (some v)) else pure none : M (Option D))) m5) _ _ from hg8.bd).bdT.mono (fun e2 m6 k6 σ3 H10 s10 w10 E10 => ?_) fun _ _ _ => trivial
          refine ⟨(w10 vs1 his1).trans wipe_wipe, a :: Z, H0, O, e2, m6, E10, k6.bd.mono (fun b m7 k7 H11 s11 d11 => ?_) fun _ _ k => k⟩
          have s811 : SameW c.W H8 H11 := (SameW.of sy1).trans (s10.trans s11)
          have ha11 : H11 a = some (.lst ws5) := s811 a _ na0 ha8
          cases b with
          | false =>
            have k8 := Good.bd (show Good ((lcL (lcStep G1 T1 El (wipeE e1 vs1)) (ds1.drop (j + 1)) >>= fun r => pure (lcC none r)) m7) _ _ from k7)
            exact ⟨m7, ws5, acc5, E8'.step s811 d11, E8.step s811 d11, s18.trans s811, Same.trans s78 (s811.hide E8.wzo), ha11, hI8.mono (s811.hide E8.wzo), k8⟩
          | true =>
            refine ⟨a :: Z, H0, O, e2, m7, E10.step s11 d11, Good.mono (Good.bd k7) (fun v m8 k8 w12 H12 s12 d12 q12 => ?_) fun _ _ k => k⟩
            have s812 : SameW c.W H8 H12 := s811.trans s12
            have ha12 : H12 a = some (.lst ws5) := s812 a _ na0 ha8
            have k9 := Good.bd (show Good ((lcL (lcStep G1 T1 El (wipeE e1 vs1)) (ds1.drop (j + 1)) >>= fun r => pure (v :: r)) m8) _ _ from k8)
            have hlen : acc5.length < lineN := by
              obtain ⟨rs, m9, q9⟩ := Good.ex k9
              obtain ⟨rs2, m10, q10⟩ := Good.ex (show Good (lcLL (lc2Step G T It1 G1 T1 El vs1 (wipeE en vs)) (ds.drop (i + 1)) m9) (fun rs2 m3 => FIN (acc5 ++ (v :: rs) ++ rs2) m3) (fun _ _ => False) from q9)
              have := fin_len _ _ q10
              rw [List.length_append, List.length_append, List.length_cons] at this
              omega
            have hup : hide (ZO (a :: Z) O) (upd H12 a (.lst (ws5 ++ [w12]))) = hide (ZO (a :: Z) O) H12 := hide_updZ (List.mem_append_left _ List.mem_cons_self)
            refine ⟨ws5, ha12, by rw [hI8.len]; exact own_line hlen, m8, ws5 ++ [w12], acc5 ++ [v], (E8'.step s812 d12).turn n0, (E8.step s812 d12).turn n0, same_updW (s18.trans s812) na, ?_, upd_same, ?_, ?_⟩
            · rw [hup]
              exact Same.trans s78 (s812.hide E8.wzo)
            · rw [hide_updZ List.mem_cons_self]
              exact ItK.snoc hke (hI8.mono (s812.hide E8.wzo)) q12
            · refine Good.mono k9 (fun rs m9 q9 => ?_) fun _ _ k => k
              have q9 : Good (lcLL (lc2Step G T It1 G1 T1 El vs1 (wipeE en vs)) (ds.drop (i + 1)) m9) (fun rs2 m3 => FIN (acc5 ++ (v :: rs) ++ rs2) m3) (fun _ _ => False) := q9
              have e3 : acc5 ++ [v] ++ rs = acc5 ++ (v :: rs) := by rw [List.append_assoc]; rfl
              rw [e3]
              exact q9
        · have ej : j = ds1.length := by omega
          subst ej
          rw [List.drop_eq_nil_of_le (Nat.le_refl _)] at hg8
          refine .inl ⟨wk1.stops H8 hsm1, m5, ws5, acc5, E8, s18, ha8, hI8, ?_⟩
          have hg8 : Good (lcLL (lc2Step G T It1 G1 T1 El vs1 (wipeE en vs)) (ds.drop (i + 1)) m5) (fun rs2 m3 => FIN (acc5 ++ [] ++ rs2) m3) (fun _ _ => False) := hg8
          rw [List.append_nil] at hg8
          exact hg8
  · have ei : i = ds.length := by omega
    subst ei
    rw [List.drop_eq_nil_of_le (Nat.le_refl _)] at hg
    refine .inl ⟨wk.stops H3 hsm, ?_⟩
    have hg : FIN (acc ++ []) m' := hg
    rw [List.append_nil] at hg
    have hl := fin_len _ _ hg
    rw [← hF] at hg
    have hg : Good ((if acc.length ≤ lineN then pure (.list acc) else M.no : M D) m') _ _ := hg
    rw [if_pos hl] at hg
    exact hg a ws acc H3 rfl (s1.trans s) E.dr nH ha hI
variable {k k1 : Kd} {is is1 : List Nat} {elt tg it tg1 it1 : Expr} {ifs ifs1 : List Expr} {scope : Scope} {pos : Pos} {It It1 : SE → M (List D)} {G G1 : D → SE → M SE} {T T1 : SE → M Bool} {El : SE → M D}
theorem lc2F_good {vs vs1 : List Nat} {en : SE} {m : MS} {P : D → MS → Prop} {R : Exn → MS → Prop} (h : Good (lc2F It G T It1 G1 T1 El vs vs1 en m) P R) : Good (lc2F It G T It1 G1 T1 El vs vs1 en m) P R := h
theorem fo_lc2 (own : List (Str × Nat)) (vs1 : List Nat) (hc : X.calm = true) (hN : X.N.Nodup) (hi : FI X c U k tg it It)
    (hg : ∀ (s : Shared) (H : Hp) (C : Addr) (cl : List (Str × Addr)) (fp : List Addr), FG (X.blk s H scope (compEnvC scope cl C X.env) fp) c U k is tg G)
    (ht : ∀ (s : Shared) (H : Hp) (C : Addr) (cl : List (Str × Addr)) (fp : List Addr), FTs (X.blk s H scope (compEnvC scope cl C X.env) fp) c U ifs T)
    (hi1 : ∀ (s : Shared) (H : Hp) (C : Addr) (cl : List (Str × Addr)) (fp : List Addr), FI (X.blk s H scope (compEnvC scope cl C X.env) fp) c U k1 tg1 it1 It1)
    (hg1 : ∀ (s : Shared) (H : Hp) (C : Addr) (cl : List (Str × Addr)) (fp : List Addr), FG (X.blk s H scope (compEnvC scope cl C X.env) fp) c U k1 is1 tg1 G1)
    (ht1 : ∀ (s : Shared) (H : Hp) (C : Addr) (cl : List (Str × Addr)) (fp : List Addr), FTs (X.blk s H scope (compEnvC scope cl C X.env) fp) c U ifs1 T1)
    (he : ∀ (s : Shared) (H : Hp) (C : Addr) (cl : List (Str × Addr)) (fp : List Addr), FE (X.blk s H scope (compEnvC scope cl C X.env) fp) c U elt El)
    (ok : blkC X.N X.env.scope scope own = true := by rfl) (his : ∀ i ∈ is, i ∈ own.map (·.2) := by decide) (his1 : ∀ i ∈ is1, i ∈ vs1 := by decide) (hv : ∀ i ∈ vs1, i ∈ own.map (·.2) := by decide) (hU : ∀ i ∈ own.map (·.2), i ∉ U := by decide) (hms : ∀ i ∈ own.map (·.2), i ∉ c.ms := by (try dsimp only); decide)
    (hs : ∀ x, foldedSetIterable it X.env x = pure x := by intro _; rfl) (hs1 : ∀ env x, foldedSetIterable it1 env x = pure x := by intro _ _; rfl) : FO X c U .dat (.ListComp elt [⟨tg, it, ifs, 0⟩, ⟨tg1, it1, ifs1, 0⟩] scope pos) (lc2F It G T It1 G1 T1 El (own.map (·.2)) vs1) := by
  obtain ⟨wi, pi, ri⟩ := hi
  refine ⟨_, pe_lc2 (g := tG X c U k is G) (tt := tT X c U T) (wi1 := tI X c U k1 It1) (g1 := tG X c U k1 is1 G1) (tt1 := tT X c U T1) (te := tE X c U .dat El) hc hN pi (blkOk_by ok) hv hg ht (fun s H C cl fp => (hi1 s H C cl fp).pi) hg1 ht1 (fun s H C cl fp => (he s H C cl fp).pe) hs hs1, fun Z H0 O en σ H m Q hE hG => ?_⟩
  refine lc2_read (ke := .dat) rfl ri his his1 hv hU hms hE (hG.mono (fun d m' kk a ws xs H' e s d1 n1 h1 hI => ?_) fun _ _ k => k)
  subst e
  exact kk a _ H' s d1 n1 h1 (.lst xs ws hI) rfl
theorem fs_setLc2 (i : Nat) {y : Str} {py spos : Pos} (own : List (Str × Nat)) (vs1 : List Nat) (hc : X.calm = true) (hN : X.N.Nodup) (hi : FI X c U k tg it It)
    (hg : ∀ (s : Shared) (H : Hp) (C : Addr) (cl : List (Str × Addr)) (fp : List Addr), FG (X.blk s H scope (compEnvC scope cl C X.env) fp) c U k is tg G)
    (ht : ∀ (s : Shared) (H : Hp) (C : Addr) (cl : List (Str × Addr)) (fp : List Addr), FTs (X.blk s H scope (compEnvC scope cl C X.env) fp) c U ifs T)
    (hi1 : ∀ (s : Shared) (H : Hp) (C : Addr) (cl : List (Str × Addr)) (fp : List Addr), FI (X.blk s H scope (compEnvC scope cl C X.env) fp) c U k1 tg1 it1 It1)
    (hg1 : ∀ (s : Shared) (H : Hp) (C : Addr) (cl : List (Str × Addr)) (fp : List Addr), FG (X.blk s H scope (compEnvC scope cl C X.env) fp) c U k1 is1 tg1 G1)
    (ht1 : ∀ (s : Shared) (H : Hp) (C : Addr) (cl : List (Str × Addr)) (fp : List Addr), FTs (X.blk s H scope (compEnvC scope cl C X.env) fp) c U ifs1 T1)
    (he : ∀ (s : Shared) (H : Hp) (C : Addr) (cl : List (Str × Addr)) (fp : List Addr), FE (X.blk s H scope (compEnvC scope cl C X.env) fp) c U elt El)
    (hsw : swapsWith (.ListComp elt [⟨tg, it, ifs, 0⟩, ⟨tg1, it1, ifs1, 0⟩] scope pos) (some (.Name y py)) spos.line X.env = pure true)
    (hk : c.dk i = .dat := by rfl) (hUi : i ∉ U := by decide) (hmi : i ∉ c.ms := by (try dsimp only); decide) (hy : X.N[i]? = some y := by rfl) (hyl : X.env.scope.names.lookup y = some .local := by rfl)
    (ok : blkC X.N X.env.scope scope own = true := by rfl) (his : ∀ i ∈ is, i ∈ own.map (·.2) := by decide) (his1 : ∀ i ∈ is1, i ∈ vs1 := by decide) (hv : ∀ i ∈ vs1, i ∈ own.map (·.2) := by decide) (hU : ∀ i ∈ own.map (·.2), i ∉ U := by decide) (hms : ∀ i ∈ own.map (·.2), i ∉ c.ms := by (try dsimp only); decide)
    (hs : ∀ x, foldedSetIterable it X.env x = pure x := by intro _; rfl) (hs1 : ∀ env x, foldedSetIterable it1 env x = pure x := by intro _ _; rfl) : FS X c UL U (.Assign [.Name y py] (.ListComp elt [⟨tg, it, ifs, 0⟩, ⟨tg1, it1, ifs1, 0⟩] scope pos) spos) (sSetO i (lc2F It G T It1 G1 T1 El (own.map (·.2)) vs1)) (i :: U) := by
  obtain ⟨wi, pi, ri⟩ := hi
  refine ⟨_, ps_setLc2 (g := tG X c U k is G) (tt := tT X c U T) (wi1 := tI X c U k1 It1) (g1 := tG X c U k1 is1 G1) (tt1 := tT X c U T1) (te := tE X c U .dat El) hc hN hy hyl hsw pi (blkOk_by ok) hv hg ht (fun s H C cl fp => (hi1 s H C cl fp).pi) hg1 ht1 (fun s H C cl fp => (he s H C cl fp).pe) hs hs1, fun Z H0 O en σ H m Ds hE hG => ?_⟩
  refine lc2_read (ke := .dat) (R := fun x m' => ExK X c (ZO Z O) σ H x m') rfl ri his his1 hv hU hms hE (hG.bd.mono (fun d m' kk a ws xs H' e s d1 n1 h1 hI => ?_) fun _ _ k => (ExK.out hE k))
  subst e
  by_cases hl : i < en.length
  · have kk : Good ((if i < en.length then pure (.nx (en.set i (some (.list xs)))) else M.no : M Ctl) m') _ _ := kk
    rw [if_pos hl] at kk
    exact kk _ _ H' (hE.putO s d1 hUi hmi (by rw [← hE.len]; exact hl) n1 h1 (.lst xs ws hI) hk)
  · have kk : Good ((if i < en.length then pure (.nx (en.set i (some (.list xs)))) else M.no : M Ctl) m') _ _ := kk
    rw [if_neg hl] at kk
    exact kk.elim
/-! ### try, where nothing is raised -/
def sNox (S : SE → M Ctl) : SE → M Ctl := fun en => nox (S en)
theorem fs_try {body : List Stmt} {h0 : ExceptHandler} {hs : List ExceptHandler} {S : SE → M Ctl} (h : FSs X.nox c UL U body S Un) : FS X c UL U (.Try body (h0 :: hs) [] [] pos) (sNox S) Un := by
  obtain ⟨t, p, r⟩ := h
  refine ⟨t, ps_try_thru0 p, fun Z H0 O en σ H m Ds hE hG => r Z H0 O en σ H m Ds hE (Good.mono (Good.nox hG) (fun k m' q => ?_) fun _ _ q => q.elim)⟩
  cases k with
  | nx e => exact q
  | bk e => exact q
  | ct e => exact q
  | rt d => exact q
end
end VL
/-! the value layer: is True; the machine's dict -/
namespace VL
open PySem
open PySem.Spec
open L2
section
variable {X : Cx}
def isBD : D → D → Option D
  | .bool a, .bool b => some (.bool (decide (a = b)))
  | _, _ => none
def isNBD : D → D → Option D
  | .bool a, .bool b => some (.bool (!decide (a = b)))
  | _, _ => none
theorem isBD_some {a b d : D} (h : isBD a b = some d) : ∃ p q, a = .bool p ∧ b = .bool q ∧ d = .bool (decide (p = q)) := by
  unfold isBD at h
  split at h
  · cases h
    exact ⟨_, _, rfl, rfl, rfl⟩
  · cases h
theorem isNBD_some {a b d : D} (h : isNBD a b = some d) : ∃ p q, a = .bool p ∧ b = .bool q ∧ d = .bool (!decide (p = q)) := by
  unfold isNBD at h
  split at h
  · cases h
    exact ⟨_, _, rfl, rfl, rfl⟩
  · cases h
theorem ov_isB : OpV X (compareOp .Is) isBD := ⟨_, op_is_bl, fun Zs x y H a b d Q hz ha hb hg k => by
  obtain ⟨p, q, rfl, rfl, rfl⟩ := isBD_some hg
  obtain rfl := ha.bl
  obtain rfl := hb.bl
  exact ⟨p, q, rfl, rfl, k _ _ (Same.refl _) (.bl _)⟩⟩
theorem ov_isNB : OpV X (compareOp .IsNot) isNBD := ⟨_, op_isnot_bl, fun Zs x y H a b d Q hz ha hb hg k => by
  obtain ⟨p, q, rfl, rfl, rfl⟩ := isNBD_some hg
  obtain rfl := ha.bl
  obtain rfl := hb.bl
  exact ⟨p, q, rfl, rfl, k _ _ (Same.refl _) (.bl _)⟩⟩
end
/-! ### the machine's dict -/
def mKv (w : Wd) (n : Int) : List (Key × V) := [(.inr ("cells" : Str), .ref w.cA), (.inr ("great" : Str), .ref w.gA), (.inr ("spot" : Str), .int n)]
theorem k_cg : ¬ ((Sum.inr ("cells" : Str) : Key) = Sum.inr ("great" : Str)) := by decide +kernel
theorem k_cs : ¬ ((Sum.inr ("cells" : Str) : Key) = Sum.inr ("spot" : Str)) := by decide +kernel
theorem k_gs : ¬ ((Sum.inr ("great" : Str) : Key) = Sum.inr ("spot" : Str)) := by decide +kernel
theorem m_cells (w : Wd) (n : Int) : valV (mKv w n) (.inr ("cells" : Str)) = some (.ref w.cA) := valV_pos rfl
theorem m_great (w : Wd) (n : Int) : valV (mKv w n) (.inr ("great" : Str)) = some (.ref w.gA) := (valV_neg k_cg).trans (valV_pos rfl)
theorem m_spot (w : Wd) (n : Int) : valV (mKv w n) (.inr ("spot" : Str)) = some (.int n) := (valV_neg k_cs).trans ((valV_neg k_gs).trans (valV_pos rfl))
theorem m_put (w : Wd) (n k : Int) : putK (mKv w n) (.inr ("spot" : Str)) (.int k) = mKv w k := by
  have h : ((mKv w n).any fun kv => decide (kv.1 = .inr ("spot" : Str))) = true := by
    unfold mKv
    simp
  unfold putK
  rw [if_pos h]
  unfold mKv
  have n1 : ¬ ("cells" : Str) = "spot" := by decide +kernel
  have n2 : ¬ ("great" : Str) = "spot" := by decide +kernel
  simp [n1, n2]
theorem DrawOk.at {w : Wd} {H : Hp} {m : MS} (h : DrawOk (some w) H m) : H w.am = some (.dK (mKv w m.2.2)) ∧ Rd H w.cA (.lst (m.1.map V.int)) ∧ H w.gA = some (.lst (m.2.1.map V.int)) := h w rfl
theorem DrawOk.of {w : Wd} {H : Hp} {m : MS} (h1 : H w.am = some (.dK (mKv w m.2.2))) (h2 : Rd H w.cA (.lst (m.1.map V.int))) (h3 : H w.gA = some (.lst (m.2.1.map V.int))) : DrawOk (some w) H m := fun w' q => by
  cases q
  exact ⟨h1, h2, h3⟩
/-- the three stand apart -/
theorem DrawOk.apart {w : Wd} {H : Hp} {m : MS} (h : DrawOk (some w) H m) : w.am ≠ w.cA ∧ w.am ≠ w.gA := by
  obtain ⟨h1, h2, h3⟩ := h.at
  refine ⟨fun e => ?_, ne_of h1 h3 (fun q => nomatch q)⟩
  rw [e] at h1
  rcases h2 with h2 | ⟨x, h2⟩
  · rw [h1] at h2
    cases h2
  · rw [h1] at h2
    cases h2
/-! ### the law's mixing, as numbers -/
def mixI (c n : Int) : Int := ((c * (1 + 2 * n) * 48271) % 2147483647 + 7919 * n * n + 104729 * n) * 69621 % 2147483629 / 7
/-- what a draw gives -/
def drawBase (L : Int) (cells : List Int) (n : Int) : Option Int := (cells[(n % 64).toNat]?).map fun c => mixI (mixI (c + 31 * (n / 64)) n) (n + 7) % L
def drawM (L : Int) : M D := fun m =>
  if 0 < L ∧ L < 1073741824 ∧ 0 ≤ m.2.2 ∧ m.2.2 < 1000000000 ∧ m.1.length = 64 then
    match m.2.1[(m.2.2 % (m.2.1.length : Int)).toNat]? with
    | some g => if 0 < g then .ok (.int (g % L)) (m.1, m.2.1.set (m.2.2 % (m.2.1.length : Int)).toNat (g / L), m.2.2 + 1)
      else match drawBase L m.1 m.2.2 with
        | some v => .ok (.int v) (m.1, m.2.1, m.2.2 + 1)
        | none => .bad
    | none => if m.2.1 = [] then match drawBase L m.1 m.2.2 with
        | some v => .ok (.int v) (m.1, m.2.1, m.2.2 + 1)
        | none => .bad
      else .bad
  else .bad
def fnDraw : List D → M D
  | [.int L] => drawM L
  | _ => M.no
end VL
/-! the value layer: reading without hiding; the machine as data -/
namespace VL
open PySem
open PySem.Spec
open L2
/-- slots by their values -/
def RepL (K : PySem.W.Frag) (dk : Nat → Kd) (H : Hp) : Nat → SE → L2.St → Prop
  | _, [], [] => True
  | j, none :: e, _ :: σ => RepL K dk H (j + 1) e σ
  | j, some d :: e, some v :: σ => Res K H (dk j) d v ∧ RepL K dk H (j + 1) e σ
  | _, _, _ => False
theorem RepL.len {K : PySem.W.Frag} {dk : Nat → Kd} {H : Hp} : ∀ {j : Nat} {e : SE} {σ : L2.St}, RepL K dk H j e σ → e.length = σ.length
  | _, [], [], _ => rfl
  | j, none :: e, _ :: σ, h => congrArg Nat.succ (RepL.len (j := j + 1) h)
  | j, some d :: e, some v :: σ, h => congrArg Nat.succ (RepL.len (j := j + 1) h.2)
  | _, [], _ :: _, h => h.elim
  | _, some _ :: _, [], h => h.elim
  | _, none :: _, [], h => h.elim
  | _, some _ :: _, none :: _, h => h.elim
theorem RepL.get {K : PySem.W.Frag} {dk : Nat → Kd} {H : Hp} : ∀ {j : Nat} {e : SE} {σ : L2.St} {i : Nat} {d : D}, RepL K dk H j e σ → e[i]? = some (some d) → ∃ v, σ[i]? = some (some v) ∧ Res K H (dk (j + i)) d v
  | _, [], [], _, _, _, e => by simp at e
  | j, none :: e, _ :: σ, 0, d, h, q => by simp at q
  | j, none :: e, _ :: σ, i + 1, d, h, q => by
    obtain ⟨v, h1, h2⟩ := RepL.get (j := j + 1) (i := i) h (by simpa using q)
    exact ⟨v, by simpa using h1, by rw [show j + (i + 1) = j + 1 + i by omega]; exact h2⟩
  | j, some d0 :: e, some v0 :: σ, 0, d, h, q => by
    simp at q
    subst q
    exact ⟨v0, rfl, h.1⟩
  | j, some d0 :: e, some v0 :: σ, i + 1, d, h, q => by
    obtain ⟨v, h1, h2⟩ := RepL.get (j := j + 1) (i := i) h.2 (by simpa using q)
    exact ⟨v, by simpa using h1, by rw [show j + (i + 1) = j + 1 + i by omega]; exact h2⟩
  | _, [], _ :: _, _, _, h, _ => h.elim
  | _, some _ :: _, [], _, _, h, _ => h.elim
  | _, none :: _, [], _, _, h, _ => h.elim
  | _, some _ :: _, none :: _, _, _, h, _ => h.elim
theorem hide_nil (H : Hp) : hide [] H = H := by
  funext a
  exact hide_ne (by simp)
/-- the state as it is read, nothing hidden -/
theorem rdEnv {K : PySem.W.Frag} {dk : Nat → Kd} {H : Hp} {e : SE} {σ : L2.St} (m : MS) (h : RepL K dk H 0 e σ) : EnvOk K none [] dk [] H [] [] e σ H m := by
  refine ⟨h.len, fun i => Iff.rfl, List.nodup_nil, (fun w q => nomatch q), (fun z q => nomatch q), (fun w q => nomatch q), (fun w q => nomatch q), SameW.refl _ _, (fun w q => nomatch q), List.nodup_nil, (fun p hp => nomatch hp), (fun p hp => nomatch hp), fun i d h1 _ => ?_⟩
  obtain ⟨v, h2, h3⟩ := h.get h1
  rw [Nat.zero_add] at h3
  exact ⟨v, h2, by rw [show ZO [] ([] : List (Nat × Addr)) = [] from rfl, hide_nil]; exact h3⟩
/-- a reading used at such a state -/
theorem FR.use {X : Cx} {dk : Nat → Kd} {rd k : Kd} {E : L2.St → XK} {e : Expr} {F : SE → M D} (h : FR X ⟨none, [], dk, rd, E⟩ [] k e F) : ∃ t : TE, PE X e t ∧ ∀ (en : SE) (σ : L2.St) (H : Hp) (d : D) (Q : VK), RepL X.K dk H 0 en σ → F en ms0 = .ok d ms0 → (∀ v H', Same H H' → Res X.K H' k d v → Q v H') → t σ H Q := by
  obtain ⟨t, p, r⟩ := h
  refine ⟨t, p, fun en σ H d Q hr hF k => r [] H [] en σ H ms0 Q (rdEnv ms0 hr) ?_⟩
  rw [hF]
  intro v H' s _ q
  rw [show ZO [] ([] : List (Nat × Addr)) = [] from rfl, hide_nil] at q
  exact k v H' (sameN s) q
theorem FT.use {X : Cx} {dk : Nat → Kd} {rd : Kd} {E : L2.St → XK} {e : Expr} {F : SE → M Bool} (h : FT X ⟨none, [], dk, rd, E⟩ [] e F) : ∃ t : TT, PT X e t ∧ ∀ (en : SE) (σ : L2.St) (H : Hp) (b : Bool) (Q : Bool → Hp → Prop), RepL X.K dk H 0 en σ → F en ms0 = .ok b ms0 → (∀ H', Same H H' → Q b H') → t σ H Q := by
  obtain ⟨t, p, r⟩ := h
  refine ⟨t, p, fun en σ H b Q hr hF k => r [] H [] en σ H ms0 Q (rdEnv ms0 hr) ?_⟩
  rw [hF]
  exact fun H' s _ => k H' (sameN s)
/-- the machine as a dict by data -/
def mDt (m : MS) : D := .dict [(.str "cells", .list (m.1.map .int)), (.str "great", .list (m.2.1.map .int)), (.str "spot", .int m.2.2)]
theorem mDt_res {K : PySem.W.Frag} {w : Wd} {H : Hp} {m : MS} (h : DrawOk (some w) H m) : Res K H .dic (mDt m) (.ref w.am) := by
  obtain ⟨h1, h2, h3⟩ := h.at
  exact ⟨w.am, _, mKv w m.2.2, rfl, rfl, h1, .k [.inr "cells", .inr "great", .inr "spot"] [.ref w.cA, .ref w.gA, .int m.2.2] [.list (m.1.map .int), .list (m.2.1.map .int), .int m.2.2]
    (.cons (.lst h2 (DqAll.ofInts _)) (.cons (.lst (.inl h3) (DqAll.ofInts _)) (.cons (.int _) .nil))) rfl⟩
theorem s_cg : ¬ (("cells" : Str) = "great") := by decide +kernel
theorem s_cs : ¬ (("cells" : Str) = "spot") := by decide +kernel
theorem s_gs : ¬ (("great" : Str) = "spot") := by decide +kernel
theorem dg_cells (a b : D) (c : D) : dgK [(.str "cells", a), (.str "great", b), (.str "spot", c)] (.inr "cells") = some a := by
  simp [dgK, dg, asK]
theorem dg_great (a b : D) (c : D) : dgK [(.str "cells", a), (.str "great", b), (.str "spot", c)] (.inr "great") = some b := by
  simp [dgK, dg, asK, s_cg]
theorem dg_spot (a b : D) (c : D) : dgK [(.str "cells", a), (.str "great", b), (.str "spot", c)] (.inr "spot") = some c := by
  simp [dgK, dg, asK, s_cs, s_gs]
theorem m_ok {α : Type} (a : α) (m : MS) : (pure a : M α) m = .ok a m := rfl
theorem mulD_r {i j : Int} (h : -(2 ^ 64) < j ∧ j < 2 ^ 64) : mulD (.int i) (.int j) = some (.int (i * j)) := if_pos (.inr h)
theorem mulD_l {i j : Int} (h : -(2 ^ 64) < i ∧ i < 2 ^ 64) : mulD (.int i) (.int j) = some (.int (i * j)) := if_pos (.inl h)
theorem modD_p {i j : Int} (h : 0 < j) : modD (.int i) (.int j) = some (.int (i % j)) := if_pos h
theorem fdivD_p {i j : Int} (h : 0 < j ∧ j < 1073741824) : fdivD (.int i) (.int j) = some (.int (i / j)) := if_pos h
end VL
/-! the value layer: what the readings give, step by step -/
namespace VL
open PySem
open PySem.Spec
open L2
/-- x, run at m, gives a at m' -/
abbrev Ev {α : Type} (x : M α) (m : MS) (a : α) (m' : MS) : Prop := x m = .ok a m'
theorem ev_bd {α β : Type} {x : M α} {f : α → M β} {m m1 m2 : MS} {a : α} {b : β} (h : Ev x m a m1) (k : Ev (f a) m1 b m2) : Ev (x >>= f) m b m2 := by
  show M.bd x f m = _
  unfold M.bd
  rw [show x m = _ from h]
  exact k
theorem ev_p {α : Type} (a : α) (m : MS) : Ev (pure a) m a m := rfl
theorem ev_lft {α : Type} {o : Option α} {a : α} (m : MS) (h : o = some a) : Ev (lft o) m a m := by
  subst h
  rfl
theorem ev_nox {α : Type} {x : M α} {m m' : MS} {a : α} (h : Ev x m a m') : Ev (nox x) m a m' := by
  show (match x m with | .ok a m' => Out.ok a m' | _ => .bad) = _
  rw [show x m = _ from h]
theorem ev_still {α : Type} {x : M α} {m m' : MS} {a : α} (h : Ev x ms0 a m') : Ev (still x) m a m := by
  show (match x ms0 with | .ok a _ => Out.ok a m | .exc e _ => .exc e m | .bad => .bad) = _
  rw [show x ms0 = _ from h]
section
variable {en : SE} {m m1 m2 m3 : MS} {F G L : SE → M D} {T T' : SE → M Bool} {A B : SE → M (List D)} {a b d : D} {ds es : List D}
theorem v_var (i : Nat) {en : SE} {m : MS} {d : D} (h : en[i]? = some (some d)) : Ev (eVar i en) m d m := by
  unfold eVar
  rw [h]
  rfl
theorem v_c (d : D) : Ev (eC d en) m d m := rfl
theorem v_e1 {g : D → Option D} (h : Ev (F en) m a m1) (k : g a = some d) : Ev (e1 g F en) m d m1 := ev_bd h (ev_lft m1 k)
theorem v_e2 {g : D → D → Option D} (h : Ev (F en) m a m1) (h' : Ev (G en) m1 b m2) (k : g a b = some d) : Ev (e2 g F G en) m d m2 := ev_bd h (ev_bd h' (ev_lft m2 k))
theorem v_aN : Ev (aN en) m [] m := rfl
theorem v_aC (h : Ev (F en) m a m1) (h' : Ev (A en) m1 ds m2) : Ev (aC F A en) m (a :: ds) m2 := ev_bd h (ev_bd h' rfl)
theorem v_eL {g : List D → Option D} (h : Ev (A en) m ds m1) (k : g ds = some d) : Ev (eL g A en) m d m1 := ev_bd h (ev_lft m1 k)
theorem v_tV {g : D → Option Bool} {o : Bool} (h : Ev (F en) m a m1) (k : g a = some o) : Ev (tV g F en) m o m1 := ev_bd h (ev_lft m1 k)
theorem v_eB {o : Bool} (h : Ev (T en) m o m1) : Ev (eB T en) m (.bool o) m1 := ev_bd h rfl
theorem v_not {o : Bool} (h : Ev (T en) m o m1) : Ev (tNot1 T en) m (!o) m1 := ev_bd h rfl
theorem v_ifT (h : Ev (T en) m true m1) (k : Ev (F en) m1 d m2) : Ev (eIf T F G en) m d m2 := ev_bd h k
theorem v_ifF (h : Ev (T en) m false m1) (k : Ev (G en) m1 d m2) : Ev (eIf T F G en) m d m2 := ev_bd h k
theorem v_andT {o : Bool} (h : Ev (T en) m true m1) (k : Ev (T' en) m1 o m2) : Ev (tAnd2 T T' en) m o m2 := ev_bd h k
theorem v_andF (h : Ev (T en) m false m1) : Ev (tAnd2 T T' en) m false m1 := ev_bd h rfl
theorem v_orF {o : Bool} (h : Ev (T en) m false m1) (k : Ev (T' en) m1 o m2) : Ev (tOr2 T T' en) m o m2 := ev_bd h k
theorem v_orT (h : Ev (T en) m true m1) : Ev (tOr2 T T' en) m true m1 := ev_bd h rfl
theorem v_call {Fn : List D → M D} (h : Ev (A en) m ds m1) (k : Ev (Fn ds) ms0 d m2) : Ev (eCall Fn A en) m d m1 := ev_bd h (ev_still (ev_nox k))
theorem v_callM {Fn : List D → M D} (h : Ev (A en) m ds m1) (k : Ev (Fn ds) m1 d m2) : Ev (eCallM Fn A en) m d m2 := ev_bd h (ev_nox k)
theorem v_dgK {i : Nat} {kvs : List (D × D)} (hk : dicAt i en = some kvs) (h : Ev (F en) m a m1) (k : (asK a).bind (dgK kvs) = some d) : Ev (eDgK i F en) m d m1 := ev_bd (ev_lft m hk) (ev_bd h (ev_lft m1 k))
theorem v_dgT {i : Nat} {kvs : List (D × D)} (hk : dicAt i en = some kvs) (h : Ev (F en) m a m1) (k : (asT a).bind (dgT kvs) = some d) : Ev (eDgT i F en) m d m1 := ev_bd (ev_lft m hk) (ev_bd h (ev_lft m1 k))
theorem v_din {neg : Bool} {has : List (D × D) → D → Option Bool} {i : Nat} {kvs : List (D × D)} {o : Bool} (h : Ev (F en) m a m1) (hk : dicAt i en = some kvs) (k : has kvs a = some o) : Ev (eDin neg has i F en) m (if neg = true then !o else o) m1 := ev_bd h (ev_bd (ev_lft m1 hk) (ev_bd (ev_lft m1 k) rfl))
theorem v_dlen {i : Nat} {kvs : List (D × D)} (hk : dicAt i en = some kvs) : Ev (eDlen i en) m (.int kvs.length) m := ev_bd (ev_lft m hk) rfl
theorem v_c3T {g g' : D → D → Option D} {a b d : D} {o : Bool} (h : Ev (F en) m a m1) (h' : Ev (G en) m1 b m2) (k : g a b = some (.bool true)) (h'' : Ev (L en) m2 d m3) (k' : g' b d = some (.bool o)) : Ev (e3c g g' F G L en) m o m3 := by
  refine ev_bd h (ev_bd h' (ev_bd (ev_lft (a := true) m2 (by rw [k]; rfl)) ?_))
  exact ev_bd h'' (ev_lft m3 (by rw [k']; rfl))
theorem v_c3F {g g' : D → D → Option D} {a b : D} (h : Ev (F en) m a m1) (h' : Ev (G en) m1 b m2) (k : g a b = some (.bool false)) : Ev (e3c g g' F G L en) m false m2 :=
  ev_bd h (ev_bd h' (ev_bd (ev_lft (a := false) m2 (by rw [k]; rfl)) rfl))
/-! ### statements -/
variable {S S' : SE → M Ctl} {k k' : Ctl} {e e' : SE}
theorem v_sq (h : Ev (S en) m (.nx e) m1) (h' : Ev (S' e) m1 k m2) : Ev (sq S S' en) m k m2 := ev_bd h h'
theorem v_sqR {d : D} (h : Ev (S en) m (.rt d) m1) : Ev (sq S S' en) m (.rt d) m1 := ev_bd h rfl
theorem v_sqC (h : Ev (S en) m (.ct e) m1) : Ev (sq S S' en) m (.ct e) m1 := ev_bd h rfl
theorem v_sqB (h : Ev (S en) m (.bk e) m1) : Ev (sq S S' en) m (.bk e) m1 := ev_bd h rfl
theorem v_set (i : Nat) (h : Ev (F en) m d m1) : Ev (sSet i F en) m (.nx (en.set i (some d))) m1 := ev_bd h rfl
theorem v_setO (i : Nat) (h : Ev (F en) m d m1) (hl : i < en.length) : Ev (sSetO i F en) m (.nx (en.set i (some d))) m1 := by
  refine ev_bd h ?_
  show (if i < en.length then pure (.nx (en.set i (some d))) else M.no : M Ctl) m1 = _
  rw [if_pos hl]
  rfl
theorem v_ret (h : Ev (F en) m d m1) : Ev (sRet F en) m (.rt d) m1 := ev_bd h rfl
theorem v_drop (h : Ev (F en) m d m1) : Ev (sDrop F en) m (.nx en) m1 := ev_bd h rfl
theorem v_sIfT (h : Ev (T en) m true m1) (h' : Ev (S en) m1 k m2) : Ev (sIf T S S' en) m k m2 := ev_bd h h'
theorem v_sIfF (h : Ev (T en) m false m1) (h' : Ev (S' en) m1 k m2) : Ev (sIf T S S' en) m k m2 := ev_bd h h'
theorem v_app (i : Nat) {r : List D} (hl : lstAt i en = some ds) (h : Ev (F en) m d m1) {g : List D → D → Option (List D)} (k : g ds d = some r) : Ev (sMeth i g F en) m (.nx (en.set i (some (.list r)))) m1 := ev_bd (ev_lft m hl) (ev_bd h (ev_bd (ev_lft m1 k) rfl))
theorem v_setIx (i : Nat) {r : List D} (h : Ev (F en) m d m1) (hl : lstAt i en = some ds) (h' : Ev (G en) m1 a m2) (k : setIx ds a d = some r) : Ev (sSetIx i G F en) m (.nx (en.set i (some (.list r)))) m2 := ev_bd h (ev_bd (ev_lft m1 hl) (ev_bd h' (ev_bd (ev_lft m2 k) rfl)))
theorem v_dput (i : Nat) {put : List (D × D) → D → D → Option (List (D × D))} {kvs r : List (D × D)} (h : Ev (F en) m d m1) (hl : dicAt i en = some kvs) (h' : Ev (G en) m1 a m2) (k : put kvs a d = some r) : Ev (sDput put i G F en) m (.nx (en.set i (some (.dict r)))) m2 := ev_bd h (ev_bd (ev_lft m1 hl) (ev_bd h' (ev_bd (ev_lft m2 k) rfl)))
theorem v_asg {Gt : D → SE → M SE} (h : Ev (F en) m d m1) (h' : Ev (Gt d en) m1 e m2) : Ev (sAsg Gt F en) m (.nx e) m2 := ev_bd h (ev_bd h' rfl)
theorem v_par (i j : Nat) (h : Ev (A en) m [a, b] m1) : Ev (sPar i j A en) m (.nx ((en.set i (some a)).set j (some b))) m1 := ev_bd h rfl
theorem v_parO (i j : Nat) (h : Ev (F en) m a m1) (h' : Ev (G en) m1 b m2) (hl : i < en.length ∧ j < en.length) : Ev (sParO i j F G en) m (.nx ((en.set i (some a)).set j (some b))) m2 := by
  refine ev_bd h (ev_bd h' ?_)
  show (if i < en.length ∧ j < en.length then pure (.nx ((en.set i (some a)).set j (some b))) else M.no : M Ctl) m2 = _
  rw [if_pos hl]
  rfl
theorem v_aug (i : Nat) {g : D → D → Option D} (h : en[i]? = some (some a)) (h' : Ev (F en) m b m1) (k : g a b = some d) : Ev (sAug i g F en) m (.nx (en.set i (some d))) m1 := ev_bd (v_var i h) (ev_bd h' (ev_bd (ev_lft m1 k) rfl))
theorem v_iA {g : List D → Option (List D)} (h : Ev (A en) m ds m1) (k : g ds = some es) : Ev (iA g A en) m es m1 := ev_bd h (ev_lft m1 k)
theorem v_iL {g : D → Option (List D)} (h : Ev (F en) m d m1) (k : g d = some es) : Ev (iL g F en) m es m1 := ev_bd h (ev_lft m1 k)
theorem v_for {It : SE → M (List D)} {Gt : D → SE → M SE} {B : SE → M Ctl} (h : Ev (It en) m ds m1) (h' : Ev (forL Gt B ds en) m1 k m2) : Ev (sFor It Gt B en) m k m2 := ev_bd h h'
theorem v_runR (h : Ev (S en) m (.rt d) m1) : Ev (runB S en) m d m1 := ev_bd h rfl
theorem v_runN (h : Ev (S en) m (.nx e) m1) : Ev (runB S en) m .none m1 := ev_bd h rfl
/-- a loop with an invariant: I i e m, the state ahead of the i-th turn -/
theorem v_loop {Gt : D → SE → M SE} {B : SE → M Ctl} (I : Nat → SE → MS → Prop) : ∀ (ds : List D) (i : Nat) (en : SE) (m : MS), I i en m →
    (∀ j d en m, ds[j]? = some d → I (i + j) en m → ∃ e1 m1 e2 m2, Ev (Gt d en) m e1 m1 ∧ (Ev (B e1) m1 (.nx e2) m2 ∨ Ev (B e1) m1 (.ct e2) m2) ∧ I (i + j + 1) e2 m2) → ∃ e' m', Ev (forL Gt B ds en) m (.nx e') m' ∧ I (i + ds.length) e' m'
  | [], i, en, m, h, _ => ⟨en, m, rfl, h⟩
  | d :: ds, i, en, m, h, step => by
    obtain ⟨e1, m1, e2, m2, h1, h2, h3⟩ := step 0 d en m rfl h
    obtain ⟨e', m', h4, h5⟩ := v_loop I ds (i + 1) e2 m2 h3 fun j d en m hj hI => by
      have := step (j + 1) d en m (by simpa using hj) (by rw [show i + (j + 1) = i + 1 + j by omega]; exact hI)
      rwa [show i + (j + 1) + 1 = i + 1 + j + 1 by omega] at this
    refine ⟨e', m', ?_, by rw [List.length_cons, show i + (ds.length + 1) = i + 1 + ds.length by omega]; exact h5⟩
    rcases h2 with h2 | h2
    · exact ev_bd h1 (ev_bd h2 h4)
    · exact ev_bd h1 (ev_bd h2 h4)
/-- a comprehension whose turns give each one thing, or none -/
theorem v_lcL {f : D → M (Option D)} : ∀ {ds : List D} {m : MS} (r : List (Option D)), r.length = ds.length → (∀ (j : Nat) (d : D) (o : Option D), ds[j]? = some d → r[j]? = some o → Ev (f d) m o m) → Ev (lcL f ds) m (r.filterMap id) m
  | [], m, [], _, _ => rfl
  | d :: ds, m, o :: r, hl, h => by
    refine ev_bd (h 0 d o rfl rfl) (ev_bd (v_lcL (f := f) (ds := ds) (m := m) r (by simpa using hl) fun j d o a b => h (j + 1) d o (by simpa using a) (by simpa using b)) ?_)
    cases o <;> rfl
  | [], _, _ :: _, hl, _ => by cases hl
  | _ :: _, _, [], hl, _ => by cases hl
theorem v_lc {It : SE → M (List D)} {Gt : D → SE → M SE} {vs : List Nat} {xs : List D} (h : Ev (It en) m ds m1) (k : Ev (lcL (lcStep Gt T F (wipeE en vs)) ds) m1 xs m2) (hl : xs.length ≤ lineN) : Ev (lcF It Gt T F vs en) m (.list xs) m2 := by
  refine ev_nox (ev_bd h (ev_bd k ?_))
  show (if xs.length ≤ lineN then pure (.list xs) else M.no : M D) m2 = _
  rw [if_pos hl]
  rfl
end
end VL
namespace VL
open PySem
open PySem.Spec
open L2
theorem tE_use {X : Cx} {dk : Nat → Kd} {rd k : Kd} {E : L2.St → XK} {F : SE → M D} {en : SE} {σ : L2.St} {H : Hp} {d : D} {Q : VK} (hr : RepL X.K dk H 0 en σ) (hF : Ev (F en) ms0 d ms0) (kk : ∀ v H', Same H H' → Res X.K H' k d v → Q v H') : tE X ⟨none, [], dk, rd, E⟩ [] k F σ H Q := by
  refine ⟨[], H, [], en, ms0, rdEnv ms0 hr, ?_⟩
  rw [show F en ms0 = _ from hF]
  intro v H' s _ q
  rw [show ZO [] ([] : List (Nat × Addr)) = [] from rfl, hide_nil] at q
  exact kk v H' (sameN s) q
theorem tT_use {X : Cx} {dk : Nat → Kd} {rd : Kd} {E : L2.St → XK} {F : SE → M Bool} {en : SE} {σ : L2.St} {H : Hp} {b : Bool} {Q : Bool → Hp → Prop} (hr : RepL X.K dk H 0 en σ) (hF : Ev (F en) ms0 b ms0) (kk : ∀ H', Same H H' → Q b H') : tT X ⟨none, [], dk, rd, E⟩ [] F σ H Q := by
  refine ⟨[], H, [], en, ms0, rdEnv ms0 hr, ?_⟩
  rw [show F en ms0 = _ from hF]
  exact fun H' s _ => kk H' (sameN s)
end VL
namespace VL
open PySem
open PySem.Spec
open L2
/-- what a draw that ends well is -/
theorem draw_inv {L n : Int} {cells great : List Int} {P : D → MS → Prop} {R : Exn → MS → Prop} (h : Good (drawM L (cells, great, n)) P R) : (0 < L ∧ L < 1073741824 ∧ 0 ≤ n ∧ n < 1000000000 ∧ cells.length = 64) ∧
    ((∃ g, great[(n % (great.length : Int)).toNat]? = some g ∧ 0 < g ∧ P (.int (g % L)) (cells, great.set (n % (great.length : Int)).toNat (g / L), n + 1)) ∨
     (((∃ g, great[(n % (great.length : Int)).toNat]? = some g ∧ ¬ 0 < g) ∨ great = []) ∧ ∃ r, drawBase L cells n = some r ∧ P (.int r) (cells, great, n + 1))) := by
  unfold drawM at h
  by_cases hcd : 0 < L ∧ L < 1073741824 ∧ 0 ≤ n ∧ n < 1000000000 ∧ cells.length = 64
  · refine ⟨hcd, ?_⟩
    rw [if_pos hcd] at h
    cases q : great[(n % (great.length : Int)).toNat]? with
    | some g =>
      have h : Good (if 0 < g then Out.ok (PyData.int (g % L)) (cells, great.set (n % (great.length : Int)).toNat (g / L), n + 1) else match drawBase L cells n with
        | some v => .ok (.int v) (cells, great, n + 1)
        | none => .bad) P R := by
        simp only [q] at h
        exact h
      by_cases hg : 0 < g
      · rw [if_pos hg] at h
        exact .inl ⟨g, rfl, hg, h⟩
      · rw [if_neg hg] at h
        cases r : drawBase L cells n with
        | some v =>
          rw [r] at h
          exact .inr ⟨.inl ⟨g, rfl, hg⟩, v, rfl, h⟩
        | none =>
          rw [r] at h
          exact h.elim
    | none =>
      have h : Good (if great = [] then match drawBase L cells n with
        | some v => Out.ok (PyData.int v) (cells, great, n + 1)
        | none => .bad else .bad) P R := by
        simp only [q] at h
        exact h
      by_cases hg : great = []
      · rw [if_pos hg] at h
        cases r : drawBase L cells n with
        | some v =>
          rw [r] at h
          exact .inr ⟨.inr hg, v, rfl, h⟩
        | none =>
          rw [r] at h
          exact h.elim
      · rw [if_neg hg] at h
        exact h.elim
  · rw [if_neg hcd] at h
    exact h.elim
theorem ne_nil {ns : List Int} : neD (.list (ns.map .int)) (.list []) = some (.bool (!ns.isEmpty)) := by
  have h : (SeqAt.shaped (.list (ns.map PyData.int)) && SeqAt.shaped (.list [])) = true := by
    have h1 := PySem.W.shaped_ints []
    rw [PySem.W.shaped_ints ns, show SeqAt.shaped (.list []) = true from h1]
    rfl
  unfold neD
  rw [if_pos h]
  cases ns <;> rfl
theorem at_int {ns : List Int} {i : Int} {c : Int} (h0 : 0 ≤ i) (h : ns[i.toNat]? = some c) : atI (ns.map PyData.int) i = some (.int c) := by
  have e : i = ((i.toNat : Nat) : Int) := by omega
  rw [e]
  exact atI_nat (by rw [List.getElem?_map, h]; rfl)
end VL
namespace VL
open L2
theorem ixN_at {n j : Nat} (hj : j < n) : ixN n (j : Int) = some j := by
  unfold ixN
  rw [if_pos (by omega), if_pos (by omega), Int.toNat_natCast]
end VL
namespace VL
open PySem
open PySem.Spec
open L2
theorem v_lcO {f : D → M (Option D)} (o : D → Option D) {m : MS} : ∀ {ds : List D}, (∀ d, d ∈ ds → Ev (f d) m (o d) m) → Ev (lcL f ds) m (ds.filterMap o) m
  | [], _ => rfl
  | d :: ds, h => by
    refine ev_bd (h d List.mem_cons_self) (ev_bd (v_lcO o (ds := ds) fun x hx => h x (List.mem_cons_of_mem _ hx)) ?_)
    rw [List.filterMap_cons]
    cases o d <;> rfl
theorem v_lcM {f : D → M (Option D)} (g : D → D) {m : MS} {ds : List D} (h : ∀ d, d ∈ ds → Ev (f d) m (some (g d)) m) : Ev (lcL f ds) m (ds.map g) m := by
  have := v_lcO (fun d => some (g d)) h
  rwa [List.filterMap_eq_map'] at this
theorem v_stepT {Gt : D → SE → M SE} {T : SE → M Bool} {El : SE → M D} {en e1 : SE} {d v : D} {m m1 m2 m3 : MS} (h1 : Ev (Gt d en) m e1 m1) (h2 : Ev (T e1) m1 true m2) (h3 : Ev (El e1) m2 v m3) : Ev (lcStep Gt T El en d) m (some v) m3 := ev_bd h1 (ev_bd h2 (ev_bd h3 rfl))
theorem v_stepF {Gt : D → SE → M SE} {T : SE → M Bool} {El : SE → M D} {en e1 : SE} {d : D} {m m1 m2 : MS} (h1 : Ev (Gt d en) m e1 m1) (h2 : Ev (T e1) m1 false m2) : Ev (lcStep Gt T El en d) m none m2 := ev_bd h1 (ev_bd h2 rfl)
theorem v_gNm (i : Nat) (d : D) (en : SE) (m : MS) : Ev (gNm i d en) m (en.set i (some d)) m := rfl
theorem v_gTp2 (i j : Nat) (a b : D) (en : SE) (m : MS) : Ev (gTp 2 (gC (gNm i) (gC (gNm j) gN0)) (.tuple [a, b]) en) m ((en.set i (some a)).set j (some b)) m := rfl
theorem v_tYs (en : SE) (m : MS) : Ev (tYs en) m true m := rfl
theorem mem_rngI {lo : Int} {n : Nat} {d : D} (h : d ∈ rngI lo n) : ∃ i : Nat, i < n ∧ d = .int (lo + i) := by
  unfold rngI at h
  obtain ⟨i, h1, h2⟩ := List.mem_map.mp h
  exact ⟨i, List.mem_range.mp h1, h2.symm⟩
theorem at_nat {ns : List Int} {j : Nat} (h : j < ns.length) : atI (ns.map PyData.int) (j : Int) = some (.int ns[j]) := atI_nat (by rw [List.getElem?_map, List.getElem?_eq_getElem h]; rfl)
theorem setIx_int {ns : List Int} {k v : Int} (h0 : 0 ≤ k) (h : k < ns.length) : setIx (ns.map PyData.int) (.int k) (.int v) = some ((ns.set k.toNat v).map .int) := by
  have e : k = ((k.toNat : Nat) : Int) := by omega
  show (ixN (ns.map PyData.int).length k).map _ = _
  rw [List.length_map, e, ixN_at (by omega), List.map_set, Int.toNat_natCast]
  rfl
end VL
namespace VL
open PySem
open L2
theorem enumD_inv {xs : List D} {j : Nat} {d : D} (h : (enumD xs)[j]? = some d) : ∃ a, xs[j]? = some a ∧ d = .tuple [.int (j : Nat), a] := by
  have hj : j < xs.length := by
    rw [← enumD_len]
    exact (List.getElem?_eq_some_iff.mp h).1
  refine ⟨xs[j], List.getElem?_eq_getElem hj, ?_⟩
  rw [enumD_get (List.getElem?_eq_getElem hj)] at h
  exact (Option.some.inj h).symm
theorem map_inv {α : Type} {f : α → D} {l : List α} {j : Nat} {d : D} (h : (l.map f)[j]? = some d) : ∃ a, l[j]? = some a ∧ d = f a := by
  rw [List.getElem?_map] at h
  obtain ⟨a, h1, h2⟩ := Option.map_eq_some_iff.mp h
  exact ⟨a, h1, h2.symm⟩
theorem rngI_inv {lo : Int} {n j : Nat} {d : D} (h : (rngI lo n)[j]? = some d) : j < n ∧ d = .int (lo + j) := by
  unfold rngI at h
  obtain ⟨a, h1, h2⟩ := map_inv h
  have hj : j < n := by
    have := (List.getElem?_eq_some_iff.mp h1).1
    rwa [List.length_range] at this
  rw [List.getElem?_range hj] at h1
  cases h1
  exact ⟨hj, h2⟩
end VL
namespace VL
open PySem
open PySem.Spec
open L2
def onI (f : Int → Int) : D → D
  | .int i => .int (f i)
  | d => d
theorem map_onI (f : Int → Int) (ns : List Int) : (ns.map PyData.int).map (onI f) = (ns.map f).map .int := by
  rw [List.map_map, List.map_map]
  rfl
def tEO (X : Cx) (c : Ct) (U : List Nat) (k : Kd) (F : SE → M D) : TE := fun σ H Q => ∃ Z H0 O en m, EnvOk X.K c.W c.ms c.dk Z H0 U O en σ H m ∧
    Good (F en m) (fun d m' => ∀ a o H', SameW c.W H H' → DrawOk c.W H' m' → H a = none → H' a = some o → OwnR X.K (hide (a :: ZO Z O) H') d o → kO o = k → Q (.ref a) H') (fun _ _ => False)
theorem FO.pe {X : Cx} {c : Ct} {U : List Nat} {k : Kd} {e : Expr} {F : SE → M D} (h : FO X c U k e F) : PE X e (tEO X c U k F) := by
  obtain ⟨t, p, r⟩ := h
  refine ⟨fun pins s σ H Q I q => p.run pins s σ H Q I ?_⟩
  obtain ⟨Z, H0, O, en, m, hE, hG⟩ := q
  exact r Z H0 O en σ H m Q hE (hG.mono (fun _ _ k => k) fun _ _ k => k.elim)
theorem tEO_use {X : Cx} {dk : Nat → Kd} {rd k : Kd} {E : L2.St → XK} {F : SE → M D} {en : SE} {σ : L2.St} {H : Hp} {d : D} {Q : VK} (hr : RepL X.K dk H 0 en σ) (hF : Ev (F en) ms0 d ms0) (kk : ∀ a o H', Same H H' → H a = none → H' a = some o → OwnR X.K (hide [a] H') d o → Q (.ref a) H') : tEO X ⟨none, [], dk, rd, E⟩ [] k F σ H Q := by
  refine ⟨[], H, [], en, ms0, rdEnv ms0 hr, ?_⟩
  rw [show F en ms0 = _ from hF]
  intro a o H' s _ n h r _
  exact kk a o H' (sameN s) n h r
end VL
/-! the value layer: [xs.pop(e) for ..], xs owned -/
namespace VL
open PySem
open PySem.Spec
open L2

section
variable {X : Cx} {c : Ct} {U : List Nat}
def popD (xs : List D) (d : D) : Option (D × List D) := match d with
  | .int k => if -(2 ^ 63) ≤ k ∧ k < 2 ^ 63 then (match seqIndex? k xs.length with
    | some j => (match xs[j]? with
      | some y => some (y, xs.eraseIdx j)
      | none => none)
    | none => none) else none
  | _ => none
theorem popD_some {xs : List D} {d y : D} {r : List D} (h : popD xs d = some (y, r)) : ∃ k j, d = .int k ∧ -(2 ^ 63) ≤ k ∧ k < 2 ^ 63 ∧ seqIndex? k xs.length = some j ∧ xs[j]? = some y ∧ r = xs.eraseIdx j := by
  unfold popD at h
  cases d with
  | int k =>
    dsimp only at h
    by_cases hk : -(2 ^ 63) ≤ k ∧ k < 2 ^ 63
    · rw [if_pos hk] at h
      cases q : seqIndex? k xs.length with
      | none => rw [q] at h; cases h
      | some j =>
        rw [q] at h
        dsimp only at h
        cases q2 : xs[j]? with
        | none => rw [q2] at h; cases h
        | some z =>
          rw [q2] at h
          cases h
          exact ⟨k, j, rfl, hk.1, hk.2, q, q2, rfl⟩
    · rw [if_neg hk] at h
      cases h
  | _ => cases h
theorem DqAll.erase {K : PySem.W.Frag} {H : Hp} {ds : List D} {vs : List V} (h : DqAll K H vs ds) (j : Nat) : DqAll K H (vs.eraseIdx j) (ds.eraseIdx j) := by
  rw [List.eraseIdx_eq_take_drop_succ, List.eraseIdx_eq_take_drop_succ]
  exact DqAll.append (DqAll.take j h) (DqAll.drop (j + 1) h)
/-- xs.pop(e), as the heap sees it -/
def tPop (X : Cx) (c : Ct) (U : List Nat) (i : Nat) (F : SE → M D) : TE := fun σ H Q => ∃ Z H0 O en m aL vs, EnvOk X.K c.W c.ms c.dk Z H0 U O en σ H m ∧ σ[i]? = some (some (.ref aL)) ∧ H aL = some (.lst vs) ∧ (∀ w, c.W = some w → aL ≠ w.am ∧ aL ≠ w.gA) ∧
  Good (F en m) (fun d m' => ∀ H', SameW c.W H H' → DrawOk c.W H' m' → ∃ k j y, d = .int k ∧ -(2 ^ 63) ≤ k ∧ k < 2 ^ 63 ∧ seqIndex? k vs.length = some j ∧ vs[j]? = some y ∧ Q y (upd H' aL (.lst (vs.eraseIdx j)))) (fun _ _ => False)
def FPop (X : Cx) (c : Ct) (U : List Nat) (i : Nat) (e : Expr) (F : SE → M D) : Prop := PE X e (tPop X c U i F)
theorem pe_pop (i : Nat) {x : Str} {e : Expr} {F : SE → M D} {px apos cpos : Pos} (h : FE X c U e F) (hN : X.N[i]? = some x := by rfl) (hv : Vis X.env.scope x := by first | exact Or.inl rfl | exact Or.inr (Or.inl rfl) | exact Or.inr (Or.inr rfl)) (hd : (x == ("__debug__" : Str)) = false := by decide) (hcd : (x == ("__classdict__" : Str)) = false := by decide)
    (hbase : attributeBase (.Name x px) "pop" X.env (eval (.Name x px) X.env) = eval (.Name x px) X.env := by rfl)
    (hfew : ((backTo cpos (starEach [e] X.env)).all (fun x => !x.1) && (backToKw cpos (keywordEach [] X.env)).all (fun x => x.1.isSome)
      && decide (([e] : List Expr).length + ([] : List Keyword).length + (if ([] : List Keyword).isEmpty then 0 else 1) < 30)) = true := by rfl)
    (hline : (apos.endLine == cpos.line) = true := by rfl) (hs : starEach [e] X.env = (false, eval e X.env) :: starEach [] X.env := by rfl) (hplain : (backTo cpos (starEach [] X.env)).any (·.1) = false := by rfl) :
    FPop X c U i (.Call (.Attribute (.Name x px) "pop" apos) [e] [] cpos) F := by
  obtain ⟨t, p, r⟩ := h
  refine ⟨fun pins s σ H Q I q => (pe_bm PySem.F.plainAttrs_list PySem.F.slot_list_pop PySem.F.type_list_pop mt_popAt (pe_var hN hv hd hcd) (pa_cons p pa_nil hs) hbase hfew hline hs hplain).run pins s σ H Q I ?_⟩
  obtain ⟨Z, H0, O, en, m, aL, vs, hE, hi, hL, nw, hG⟩ := q
  refine ⟨_, hi, .inl ⟨rfl, vs, .inl (.inl hL)⟩, r Z H0 O en σ H m _ hE (hG.mono (fun d m1 k1 v H1 s1 d1 q1 => ?_) fun _ _ k => k.elim)⟩
  obtain ⟨k, j, y, rfl, h1, h2, h3, h4, h5⟩ := k1 H1 s1 d1
  have q1 : Dq X.K _ v (.int k) := q1
  cases q1
  exact ⟨aL, vs, k, j, y, rfl, rfl, s1 _ _ nw hL, h1, h2, h3, h4, h5⟩
/-- the turns -/
def lcPL (G : D → SE → M SE) (i : Nat) (F : SE → M D) (vs : List Nat) : SE → List D → M (List D)
  | _, [] => pure []
  | en, d :: ds => do
    let e1 ← G d (wipeE en vs)
    let v ← F e1
    let xs ← lft (lstAt i en)
    let q ← lft (popD xs v)
    let r ← lcPL G i F vs (en.set i (some (.list q.2))) ds
    pure (q.1 :: r)
def lcPF (It : SE → M (List D)) (G : D → SE → M SE) (i : Nat) (F : SE → M D) (vs : List Nat) : SE → M D := fun en => nox do
  let ds ← It en
  let rs ← lcPL G i F vs en ds
  if rs.length ≤ lineN then pure (.list rs) else M.no
theorem lcP_read {k : Kd} {is : List Nat} {It : SE → M (List D)} {G : D → SE → M SE} {i₀ : Nat} {El : SE → M D} {vs : List Nat} {wi : TI}
    (ri : ∀ Z H0 O en σ H m R, EnvOk X.K c.W c.ms c.dk Z H0 U O en σ H m → Good (It en m) (fun ds m' => ∀ J H1, SameW c.W H H1 → DrawOk c.W H1 m' → Walk J ds.length (fun H' => Same (hide (ZO Z O) H1) H') (YD X.K (ZO Z O) H1 k ds) → R J H1) (fun x m' => ExK X c (ZO Z O) σ H x m') → wi σ H R)
    (his : ∀ i ∈ is, i ∈ vs) (hi0 : i₀ ∉ vs) (hiU : i₀ ∈ U) (hU : ∀ i ∈ vs, i ∉ U) (hms : ∀ i ∈ vs, i ∉ c.ms) {Z : List Addr} {H0 : Hp} {O : List (Nat × Addr)} {en : SE} {σ : L2.St} {H : Hp} {m : MS} {Q : VK} {R : Exn → MS → Prop} (hE : EnvOk X.K c.W c.ms c.dk Z H0 U O en σ H m)
    (hG : Good (lcPF It G i₀ El vs en m) (fun d m' => ∀ a ws xs H', d = .list xs → SameW c.W (hide (O.map (·.2)) H) H' → DrawOk c.W H' m' → H a = none → H' a = some (.lst ws) → DqAll X.K (hide (a :: ZO Z O) H') ws xs → Q (.ref a) H') R) :
    tLc wi (tG X c U k is G) (tT X c U tYs) (tPop X c U i₀ El) vs σ H Q := by
  refine ri Z H0 O en σ H m _ hE (hG.nox.bd.mono (fun ds m1 k1 J H1 s1 d1 wk a na => ?_) fun _ _ k => k.elim)
  have nH : H a = none := none_step s1 d1 na
  have n0 : H0 a = none := hE.none0 nH
  have hw := hE.wzo
  have nw := (hE.step s1 d1).nw0 n0
  have su : SameW c.W H1 (upd H1 a (.lst [])) := .of (same_new na _)
  have hsame0 : SameW c.W (hide (O.map (·.2)) H) H1 := fun b o n q => s1 b o n (hide_some q).2
  have E0 : EnvOk X.K c.W c.ms c.dk (a :: Z) H0 U O en σ (upd H1 a (.lst [])) m1 := hE.temp (s1.trans su) (d1.same (same_new na _)) nH (by rw [upd_same]; exact fun x => nomatch x)
  have k1 : Good ((lcPL G i₀ El vs en ds >>= fun rs => (if rs.length ≤ lineN then pure (.list rs) else M.no : M D)) m1) _ _ := k1
  refine lc_it wk (fun i H' => ∃ m' ws acc en', EnvOk X.K c.W c.ms c.dk (a :: Z) H0 U O en' σ H' m' ∧ Same (hide (ZO Z O) H1) (hide (a :: ZO Z O) H') ∧ SameW c.W (hide (O.map (·.2)) H) H' ∧ H' a = some (.lst ws) ∧ DqAll X.K (hide (a :: ZO Z O) H') ws acc ∧
    Good (lcPL G i₀ El vs en' (ds.drop i) m') (fun rs m'' => Good ((if (acc ++ rs).length ≤ lineN then pure (.list (acc ++ rs)) else M.no : M D) m'') (fun d m' => ∀ a ws xs H', d = .list xs → SameW c.W (hide (O.map (·.2)) H) H' → DrawOk c.W H' m' → H a = none → H' a = some (.lst ws) → DqAll X.K (hide (a :: ZO Z O) H') ws xs → Q (.ref a) H') (fun _ _ => False)) (fun _ _ => False))
    ⟨m1, [], [], en, E0, hide_temp su hw na, hsame0.trans su, upd_same, .nil, by rw [List.drop_zero]; exact k1.bd⟩ (fun i H' _ ⟨m', ws, acc, en', E, s, _⟩ => s.trans (hide_same _ _)) (fun i x H3 H4 hi ⟨m', ws, acc, en', E, s, sw, ha, hI, hg⟩ y => ?_) (fun H' ⟨m', ws, acc, en', E, s, sw, ha, hI, hg⟩ => ?_)
  · obtain ⟨sy, d, hd, hr⟩ := y
    have e : ds.drop i = d :: ds.drop (i + 1) := by
      rw [List.drop_eq_getElem_cons hi]
      rw [List.getElem?_eq_getElem hi] at hd
      cases hd
      rfl
    rw [e] at hg
    have E4 := E.grow sy
    have Eg := E4.wiped hU hms
    refine ⟨a :: Z, H0, O, wipeE en' vs, m', d, Eg, hr _ E.zt (fun b o q => s b o q), ?_⟩
    have hg : Good ((G d (wipeE en' vs) >>= fun e1 => El e1 >>= fun v => lft (lstAt i₀ en') >>= fun xs => lft (popD xs v) >>= fun q => lcPL G i₀ El vs (en'.set i₀ (some (.list q.2))) (ds.drop (i + 1)) >>= fun r => pure (q.1 :: r)) m') _ _ := hg
    refine hg.bd.mono (fun e1 m2 k2 σ2 H5 s5 w5 E5 => ?_) fun _ _ _ => trivial
    have hw2 : wipe σ2 vs = wipe σ vs := (w5 vs his).trans wipe_wipe
    refine ⟨hw2, a :: Z, H0, O, e1, m2, E5, ?_⟩
    show ∀ H', SameW c.W H5 H' → DrawOk c.W H' m2 → _
    intro H6 s6 d6
    have E6 := E5.step s6 d6
    have s36 : SameW c.W H3 H6 := (SameW.of sy).trans (s5.trans s6)
    have E36 := E.step s36 d6
    have k2x := k2.bd
    obtain ⟨xs, hxs⟩ : ∃ xs, lstAt i₀ en' = some xs := by
      obtain ⟨v, m8, q8⟩ := Good.ex k2x
      obtain ⟨xs, h, _⟩ := q8.bd.lft
      exact ⟨xs, h⟩
    obtain ⟨aL, vsL, p1, p2, p3, p4, p5⟩ := E36.ownL hiU hxs
    have hσ : σ2[i₀]? = some (some (.ref aL)) := by
      rw [← wipeS_out (σ := σ2) hi0, hw2, wipeS_out hi0]
      exact p2
    have nwL := E36.onw p1
    rw [if_pos rfl]
    refine ⟨a :: Z, H0, O, e1, m2, aL, vsL, E6, hσ, p3, nwL, k2x.mono (fun v m3 k3 H7 s7 d7 => ?_) fun _ _ k => k⟩
    obtain ⟨xs', hx', k4⟩ := k3.bd.lft
    rw [hxs] at hx'
    cases hx'
    obtain ⟨⟨y, rs⟩, hp, k5⟩ := k4.bd.lft
    obtain ⟨k, j, rfl, b1, b2, b3, b4, rfl⟩ := popD_some hp
    obtain ⟨yv, hy1, hy2⟩ := DqAll.get p4 b4
    have s37 := s36.trans s7
    have E7 := E36.step s7 d7
    have p4' := DqAll.mono (s7.hide E36.wzo) p4
    have E8 := E7.writeL p1 p5 (DqAll.erase p4' j)
    have nwa : ∀ w, c.W = some w → a ≠ w.am ∧ a ≠ w.gA := fun w q => ⟨(nw w q).1, (nw w q).2.2⟩
    have naL : a ≠ aL := fun t => E.nz _ p1 (by rw [t]; exact List.mem_cons_self)
    have haLO : aL ∈ O.map (·.2) := List.mem_map.mpr ⟨_, p1, rfl⟩
    have haLZ : aL ∈ a :: ZO Z O := List.mem_cons_of_mem _ (List.mem_append_right _ haLO)
    have ha7 : H7 a = some (.lst ws) := s37 a _ nwa ha
    have hlen : acc.length < lineN := by
      obtain ⟨rs, m8, q8⟩ := Good.ex k5.bd
      have q8 : Good ((if (acc ++ y :: rs).length ≤ lineN then pure (.list (acc ++ y :: rs)) else M.no : M D) m8) _ _ := q8
      by_cases hz : (acc ++ y :: rs).length ≤ lineN
      · rw [List.length_append, List.length_cons] at hz
        omega
      · rw [if_neg hz] at q8
        exact q8.elim
    refine ⟨k, j, yv, rfl, b1, b2, by rw [DqAll.length p4]; exact b3, hy1, ws, by rw [upd_ne naL]; exact ha7, by rw [DqAll.length hI]; exact own_line hlen, m3, ws ++ [yv], acc ++ [y], en'.set i₀ (some (.list (xs.eraseIdx j))), E8.turn n0, ?_, ?_, upd_same, ?_, ?_⟩
    · rw [hide_updZ List.mem_cons_self, hide_updZ haLZ]
      exact s.trans (s37.hide E.wzo)
    · refine same_updW ?_ (show hide (O.map (·.2)) H a = none from ?_)
      · refine same_updW (sw.trans s37) ?_
        exact hide_in haLO
      · cases q : hide (O.map (·.2)) H a with
        | none => rfl
        | some u =>
          rw [(hide_some q).2] at nH
          cases nH
    · rw [hide_updZ List.mem_cons_self, hide_updZ haLZ]
      exact DqAll.append (DqAll.mono (s37.hide E.wzo) hI) (DqAll.one (hy2.mono (s7.hide E36.wzo)))
    · refine Good.mono k5.bd (fun rs m8 q8 => ?_) fun _ _ k => k
      rw [List.append_assoc]
      exact q8
  · rw [List.drop_eq_nil_of_le (Nat.le_refl _)] at hg
    have hg : Good ((if (acc ++ []).length ≤ lineN then pure (.list (acc ++ [])) else M.no : M D) m') _ _ := hg
    rw [List.append_nil] at hg
    by_cases hz : acc.length ≤ lineN
    · rw [if_pos hz] at hg
      exact hg a ws acc H' rfl sw E.dr nH ha hI
    · rw [if_neg hz] at hg
      exact hg.elim
/-- return [xs.pop(e) for ..] -/
theorem fs_retPop {Un UL : List Nat} (i₀ : Nat) {k : Kd} {is : List Nat} {elt tg it : Expr} {scope : Scope} {own : List (Str × Nat)} {pos rpos : Pos} {It : SE → M (List D)} {G : D → SE → M SE} {El : SE → M D} (hc : X.calm = true) (hN : X.N.Nodup) (hi : FI X c U k tg it It)
    (hg : ∀ (s : Shared) (H : Hp) (C : Addr) (cl : List (Str × Addr)) (fp : List Addr), FG (X.blk s H scope (compEnvC scope cl C X.env) fp) c U k is tg G)
    (he : ∀ (s : Shared) (H : Hp) (C : Addr) (cl : List (Str × Addr)) (fp : List Addr), FPop (X.blk s H scope (compEnvC scope cl C X.env) fp) c U i₀ elt El)
    (ok : blkC X.N X.env.scope scope own = true := by rfl) (hrd : c.rd = .dat := by rfl) (his : ∀ i ∈ is, i ∈ own.map (·.2) := by decide) (hi0 : i₀ ∉ own.map (·.2) := by decide) (hiU : i₀ ∈ U := by decide) (hU : ∀ i ∈ own.map (·.2), i ∉ U := by decide) (hms : ∀ i ∈ own.map (·.2), i ∉ c.ms := by (try dsimp only); decide)
    (hs : ∀ x, foldedSetIterable it X.env x = pure x := by intro _; rfl) : FS X c UL U (.Return (some (.ListComp elt [⟨tg, it, [], 0⟩] scope pos)) rpos) (sRet (lcPF It G i₀ El (own.map (·.2)))) Un := by
  obtain ⟨wi, pi, ri⟩ := hi
  refine ⟨_, ps_ret (pe_lc (g := tG X c U k is G) (tt := tT X c U tYs) (te := tPop X c U i₀ El) hc hN pi (blkOk_by ok) hg (fun _ _ _ _ _ => fts_nil) he hs), fun Z H0 O en σ H m Ds hE hG => ?_⟩
  refine lcP_read ri his hi0 hiU hU hms hE (hG.bd.mono (fun d m1 k1 a ws xs H1 e s1 d1 n1 h1 hI => ?_) fun _ _ k => k)
  subst e
  have na : a ∉ Z := fun z => hE.zt0 a z n1
  refine k1 (.ref a) H1 (hE.down_same.trans s1) d1 ?_
  rw [hrd]
  exact Dq.lst (Rd.of (by rw [hide_ne na]; exact h1)) (DqAll.mono (hide_sub fun b hb => List.mem_cons_of_mem _ (List.mem_append_left _ hb)) hI)
end
end VL
/-! the value layer: the call of law, behind the top -/
namespace VL
open PySem PySem.Spec PyProof.Rows L2
/-- what law(script) promises -/
def spLaw (K : PySem.W.Frag) (n : Nat) : Sp := fun vs H Q E => ∃ (a : Addr) (ns : List Int), vs = [.ref a] ∧ Rd H a (.lst (ns.map .int)) ∧ ns.length ≤ n ∧ ∀ H', Q (.bl true) H'
/-- no list is the module's own -/
def noLists (K : PySem.W.Frag) : Bool := K.all fun p => match p.2.data with
  | .seq _ _ => !(p.2.cls == .type "list")
  | _ => true
theorem lookup_mem {K : PySem.W.Frag} {a : Addr} {o : Obj} (h : K.lookup a = some o) : ∃ p ∈ K, p.2 = o := by
  induction K with
  | nil => cases h
  | cons p r ih =>
    rw [List.lookup_cons] at h
    split at h
    · cases h
      exact ⟨p, List.mem_cons_self, rfl⟩
    · obtain ⟨q, h1, h2⟩ := ih h
      exact ⟨q, List.mem_cons_of_mem _ h1, h2⟩
theorem no_list {K : PySem.W.Frag} {h : Heap} {a : Addr} {xs : Array Value} {n : Nat} (nl : noLists K = true) (X : K.In h) (ha : h.get? a = some { cls := .type "list", data := .seq xs n }) : K.lookup a = none := by
  cases q : K.lookup a with
  | none => rfl
  | some o =>
    have e := (X a o q).symm.trans ha
    cases e
    obtain ⟨p, h1, h2⟩ := lookup_mem q
    have := List.all_eq_true.mp nl p h1
    rw [h2] at this
    have this : (!(Value.type "list" == Value.type "list")) = true := this
    rw [beq_self_eq_true] at this
    cases this
/-- the script as the only tracked thing -/
def hpOf (a : Addr) (vs : List Value) (ns : List Int) : Hp := fun b => if b = a then some (.frz { cls := .type "list", data := .seq vs.toArray } (.lst (ns.map V.int))) else none
theorem hpOf_at {a : Addr} {vs : List Value} {ns : List Int} : hpOf a vs ns a = some (.frz { cls := .type "list", data := .seq vs.toArray } (.lst (ns.map V.int))) := if_pos rfl
theorem hpOf_ne {a b : Addr} {vs : List Value} {ns : List Int} (h : b ≠ a) : hpOf a vs ns b = none := if_neg h
section
variable {P : Program} {w : World} {K : PySem.W.Frag} {mg mb : Str → Option Value} {k n : Nat} {fa a : Addr} {fd : FuncData} {x : Str} {s : Shared} {vs : List Value} {ns : List Int}
theorem hok_of (ha : s.heap.get? a = some { cls := .type "list", data := .seq vs.toArray }) (hi : IntsAre vs ns) (hl : ns.length ≤ sizeLine) : HOk P w (hpOf a vs ns) s.heap := fun b u e => by
  by_cases q : b = a
  · subst q
    rw [hpOf_at] at e
    cases e
    exact ⟨ha, by rw [List.length_map]; exact hl, vs, _, vals_ints hi, ha⟩
  · rw [hpOf_ne q] at e
    cases e
theorem under_ns {b : Addr} {m : Str → Option Value} (ha : s.heap.get? a = some { cls := .type "list", data := .seq vs.toArray }) (h : s.heap.Ns b m) : (hidT s.heap (hpOf a vs ns)).Ns b m := by
  obtain ⟨o, es, ep, e, d, r⟩ := h
  refine ⟨o, es, ep, hidT_get e (hpOf_ne fun q => ?_), d, r⟩
  rw [q, ha] at e
  cases e
  have d : Data.seq vs.toArray _ = Data.dict es ep := d
  cases d
theorem call_law (X : K.In s.heap) (hns : s.heap.Ns mainGlobals mg) (hb : s.heap.Ns builtinsNs mb) (hbb : ∀ y : Str, y ≠ "__name__" → mb y = bootBuiltins y) (hlim : s.heap.NoLimit) (hg : s.gens = #[])
    (ha : s.heap.get? a = some { cls := .type "list", data := .seq vs.toArray }) (hi : IntsAre vs ns) (hln : ns.length ≤ n) (hn : n ≤ sizeLine) (hr : Room k callerA) (nl : noLists K = true)
    (F : ∀ base : Heap, K.In base → base.Ns mainGlobals mg → FnV P w K mg base CX0 k fa fd [x] (spLaw K n)) (hbd : ∀ (t : Shared) (u : Value), BindsTo t fd ⟨[u], []⟩ [(x, u)]) :
    codeAny (model P w) callerA (.call (.ref fa) ⟨[.ref a], []⟩) (fun r s' => r = .ok (.ret (.bool true)) ∧ OldK s.heap s'.heap ∧ s'.os = s.os ∧ AllBare s'.gens) s := by
  have hok := hok_of (P := P) (w := w) ha hi (Nat.le_trans hln hn)
  have ka := no_list nl X ha
  have kb : K.In (hidT s.heap (hpOf a vs ns)) := fun b o e => hidT_get (X b o e) (hpOf_ne fun q => by
    rw [q, ka] at e
    cases e)
  obtain ⟨mc, c1, c2⟩ := hlim
  have e0 : Env0 P w K mg (hidT s.heap (hpOf a vs ns)) callerA [] s (hpOf a vs ns) :=
    ⟨rfl, ⟨kb, under_ns ha hns, ⟨mb, under_ns ha hb, hbb⟩, ⟨mc, under_ns ha c1, c2⟩⟩, fun b o e => of_hidT e, Nat.le_of_eq (hidT_size _ _), trivial, (fun b q => nomatch q), hok, .of_eq hg⟩
  have run := (F _ kb (under_ns ha hns)).runs callerA [] s (hpOf a vs ns) ⟨[.ref a], []⟩ [.ref a] [.ref a] (fun v _ => v = .bl true) (fun _ _ _ => False) rfl hr e0 (hbd s (.ref a)) (.cons rfl .nil) ⟨a, ns, rfl, .inr ⟨_, hpOf_at⟩, hln, fun _ => rfl⟩
  refine codeAny_mono run fun r s' got => ?_
  match r, got with
  | .error e, got => exact got.elim
  | .ok (.ret u), ⟨v, H', h1, h2, h3, h4, h5, h6⟩ =>
    have h6 : v = .bl true := h6
    subst h6
    obtain rfl : u = Value.bool true := h5
    refine ⟨rfl, OldK.of_keep fun b o e => ?_, h1, h2⟩
    by_cases q : b = a
    · subst q
      rw [ha] at e
      cases e
      exact (h4 b _ (h3.frzs b _ _ hpOf_at)).1
    · exact h3.keep b o e (hpOf_ne q) (fun z => nomatch z) (fun z => nomatch z)
end
/-- the goal that k_head leaves -/
theorem law_walk {l : PySem.W.OpenLaw} {n k : Nat} {q : Program} {loose : List Str} {XP : (Str → Option Value) → Heap → Prop} {YP : World → Heap → Prop} {d : DefRec} {K : Params → PySem.W.Frag} {x : Str}
    (hn : l.most = some n) (hn2 : n ≤ sizeLine) (hdf : d.params.defaults = []) (hr : Room k callerA) (hY : ∀ (w : World) (h : Heap), YP w h → (K w.params).In h) (nl : ∀ w : World, noLists (K w.params) = true)
    (F : ∀ (w : World) (mg : Str → Option Value) (fa : Addr) (h : Heap), (K w.params).In h → h.Ns mainGlobals mg → mg d.name = some (.ref fa) →
      ∃ fd : FuncData, (∀ (t : Shared) (u : Value), BindsTo t fd ⟨[u], []⟩ [(x, u)]) ∧ ∀ base : Heap, (K w.params).In base → base.Ns mainGlobals mg → FnV l.prog w (K w.params) mg base CX0 k fa fd [x] (spLaw (K w.params) n)) :
    PySem.W.WalkO q loose XP YP l.row.toRowW d [] (fun f vs => PySem.call f vs) := by
  refine Att.attach_call hn hdf fun w s₀ s₁ mg mb fa o pm cd doc a vs ns G Y ho hd hcd hmg ha hi hlen hg => ?_
  obtain ⟨fd, hb, hF⟩ := F w mg fa _ (hY w _ Y) G.T.g hmg
  exact call_law (hY w _ Y) G.T.g G.T.b G.T.builtins G.T.nolimit hg ha hi hlen hn2 hr (nl w) hF hb
end VL
/-! the value layer: numbering labels by first meeting -/
namespace VL
open PySem
open PySem.Spec
open L2
section
variable {κ : Type} [DecidableEq κ]
def numStep (ks : List κ) (k : κ) : List κ := if k ∈ ks then ks else ks ++ [k]
def numGo : List κ → List κ → List Nat
  | _, [] => []
  | ks, x :: xs => (numStep ks x).idxOf x :: numGo (numStep ks x) xs
def num (xs : List κ) : List Nat := numGo [] xs
theorem numStep_mem {ks : List κ} {k : κ} : k ∈ numStep ks k := by
  unfold numStep
  by_cases h : k ∈ ks
  · rw [if_pos h]; exact h
  · rw [if_neg h]; exact List.mem_append_right _ List.mem_cons_self
theorem numStep_sub {ks : List κ} {k x : κ} (h : x ∈ ks) : x ∈ numStep ks k := by
  unfold numStep
  by_cases q : k ∈ ks
  · rw [if_pos q]; exact h
  · rw [if_neg q]; exact List.mem_append_left _ h
theorem idxOf_app {ks ls : List κ} {x : κ} (h : x ∈ ks) : (ks ++ ls).idxOf x = ks.idxOf x := by
  rw [List.idxOf_append, if_pos h]
theorem numStep_idx {ks : List κ} {k x : κ} (h : x ∈ ks) : (numStep ks k).idxOf x = ks.idxOf x := by
  unfold numStep
  by_cases q : k ∈ ks
  · rw [if_pos q]
  · rw [if_neg q]; exact idxOf_app h
theorem numStep_new {ks : List κ} {k : κ} (h : k ∉ ks) : (numStep ks k).idxOf k = ks.length := by
  unfold numStep
  rw [if_neg h, List.idxOf_append, if_neg h]
  simp
theorem numStep_len {ks : List κ} {k : κ} : (numStep ks k).length ≤ ks.length + 1 := by
  unfold numStep
  by_cases q : k ∈ ks
  · rw [if_pos q]; omega
  · rw [if_neg q]; simp
theorem numGo_len : ∀ (xs ks : List κ), (numGo ks xs).length = xs.length
  | [], _ => rfl
  | x :: xs, ks => by
    show (numGo _ xs).length + 1 = _
    rw [numGo_len xs]
    rfl
theorem num_len (xs : List κ) : (num xs).length = xs.length := numGo_len xs []
/-- all the seen, at the end -/
def numAll (ks xs : List κ) : List κ := xs.foldl numStep ks
theorem numAll_sub : ∀ {xs ks : List κ} {x : κ}, x ∈ ks → x ∈ numAll ks xs
  | [], _, _, h => h
  | y :: ys, _, _, h => numAll_sub (xs := ys) (numStep_sub h)
theorem numAll_idx : ∀ {xs ks : List κ} {x : κ}, x ∈ ks → (numAll ks xs).idxOf x = ks.idxOf x
  | [], _, _, h => rfl
  | y :: ys, ks, x, h => by
    show (numAll (numStep ks y) ys).idxOf x = _
    rw [numAll_idx (xs := ys) (numStep_sub h), numStep_idx h]
theorem numAll_mem : ∀ {xs ks : List κ} {x : κ}, x ∈ xs → x ∈ numAll ks xs
  | y :: ys, ks, x, h => by
    show x ∈ numAll (numStep ks y) ys
    rcases List.mem_cons.mp h with rfl | h
    · exact numAll_sub numStep_mem
    · exact numAll_mem h
/-- the numbers are places among all the seen -/
theorem numGo_eq : ∀ (xs ks : List κ), numGo ks xs = xs.map fun x => (numAll ks xs).idxOf x
  | [], _ => rfl
  | x :: xs, ks => by
    show (numStep ks x).idxOf x :: numGo (numStep ks x) xs = ((numAll (numStep ks x) xs).idxOf x) :: xs.map fun y => (numAll (numStep ks x) xs).idxOf y
    rw [numGo_eq xs, numAll_idx numStep_mem]
theorem num_get {xs : List κ} {i : Nat} (h : i < xs.length) : (num xs)[i]? = some ((numAll [] xs).idxOf xs[i]) := by
  unfold num
  rw [numGo_eq, List.getElem?_map, List.getElem?_eq_getElem h]
  rfl
theorem idxOf_inj {ks : List κ} {x y : κ} (hx : x ∈ ks) (h : ks.idxOf x = ks.idxOf y) : x = y := by
  have h1 := List.idxOf_lt_length_of_mem hx
  have h2 : ks.idxOf y < ks.length := by rw [← h]; exact h1
  have e1 : ks[ks.idxOf x]'h1 = x := List.getElem_idxOf h1
  have e2 : ks[ks.idxOf y]'h2 = y := List.getElem_idxOf h2
  rw [← e1, ← e2]
  simp only [h]
/-- same numbers, same labels -/
theorem num_ker {xs : List κ} {i j : Nat} (hi : i < xs.length) (hj : j < xs.length) : (num xs)[i]? = (num xs)[j]? ↔ xs[i] = xs[j] := by
  rw [num_get hi, num_get hj]
  constructor
  · intro h
    exact idxOf_inj (numAll_mem (List.getElem_mem hi)) (Option.some.inj h)
  · intro h
    rw [h]
end
/-- the numbering sees nothing but which labels are the same -/
theorem numGo_congr {κ μ : Type} [DecidableEq κ] [DecidableEq μ] : ∀ (xs : List κ) (ys : List μ) (ks : List κ) (ls : List μ), xs.length = ys.length → ks.length = ls.length →
    (∀ (i j : Nat) (x y : κ) (u v : μ), (ks ++ xs)[i]? = some x → (ks ++ xs)[j]? = some y → (ls ++ ys)[i]? = some u → (ls ++ ys)[j]? = some v → (x = y ↔ u = v)) → ks.Nodup → ls.Nodup → numGo ks xs = numGo ls ys
  | [], [], _, _, _, _, _, _, _ => rfl
  | [], _ :: _, _, _, h, _, _, _, _ => by cases h
  | _ :: _, [], _, _, h, _, _, _, _ => by cases h
  | x :: xs, y :: ys, ks, ls, hl, hk, H, n1, n2 => by
    have hx : (ks ++ x :: xs)[ks.length]? = some x := by simp
    have hy : (ls ++ y :: ys)[ks.length]? = some y := by rw [hk]; simp
    have hmem : x ∈ ks ↔ y ∈ ls := by
      constructor
      · intro h
        obtain ⟨i, hi, e⟩ := List.getElem_of_mem h
        have a1 : (ks ++ x :: xs)[i]? = some ks[i] := by rw [List.getElem?_append_left hi, List.getElem?_eq_getElem hi]
        have a2 : (ls ++ y :: ys)[i]? = some ls[i] := by rw [List.getElem?_append_left (by omega), List.getElem?_eq_getElem (by omega)]
        have := (H i ks.length _ _ _ _ a1 hx a2 hy).mp e
        rw [← this]
        exact List.getElem_mem _
      · intro h
        obtain ⟨i, hi, e⟩ := List.getElem_of_mem h
        have a1 : (ks ++ x :: xs)[i]? = some ks[i] := by rw [List.getElem?_append_left (by omega), List.getElem?_eq_getElem (by omega)]
        have a2 : (ls ++ y :: ys)[i]? = some ls[i] := by rw [List.getElem?_append_left hi, List.getElem?_eq_getElem hi]
        have := (H i ks.length _ _ _ _ a1 hx a2 hy).mpr e
        rw [← this]
        exact List.getElem_mem _
    show (numStep ks x).idxOf x :: numGo (numStep ks x) xs = (numStep ls y).idxOf y :: numGo (numStep ls y) ys
    by_cases h : x ∈ ks
    · have h' := hmem.mp h
      have e1 : numStep ks x = ks := if_pos h
      have e2 : numStep ls y = ls := if_pos h'
      have i1 := List.idxOf_lt_length_of_mem h
      have ex : ks[ks.idxOf x] = x := List.getElem_idxOf i1
      have a1 : (ks ++ x :: xs)[ks.idxOf x]? = some x := by rw [List.getElem?_append_left i1, List.getElem?_eq_getElem i1, ex]
      have a2 : (ls ++ y :: ys)[ks.idxOf x]? = some (ls[ks.idxOf x]'(by omega)) := by rw [List.getElem?_append_left (by omega), List.getElem?_eq_getElem (by omega)]
      have e3 : ls[ks.idxOf x]'(by omega) = y := (H _ ks.length _ _ _ _ a1 hx a2 hy).mp rfl
      have e4 : ls.idxOf y = ks.idxOf x := by
        have i2 := List.idxOf_lt_length_of_mem h'
        have e5 : ls[ls.idxOf y] = y := List.getElem_idxOf i2
        exact (List.getElem?_inj i2 n2).mp (by rw [List.getElem?_eq_getElem i2, List.getElem?_eq_getElem (show ks.idxOf x < ls.length by omega), e5, e3])
      rw [e1, e2, e4]
      refine congrArg _ (numGo_congr xs ys ks ls (by simpa using hl) hk (fun i j a b c d p1 p2 p3 p4 => ?_) n1 n2)
      have up : ∀ {α : Type} (qs : List α) (q : α) (rs : List α) (i : Nat) (a : α), (qs ++ rs)[i]? = some a → (qs ++ q :: rs)[if i < qs.length then i else i + 1]? = some a := fun qs q rs i a e => by
        by_cases t : i < qs.length
        · rw [if_pos t, List.getElem?_append_left t]
          rwa [List.getElem?_append_left t] at e
        · rw [if_neg t, List.getElem?_append_right (by omega), show i + 1 - qs.length = (i - qs.length) + 1 by omega, List.getElem?_cons_succ]
          rwa [List.getElem?_append_right (by omega)] at e
      have q1 := up ks x xs i a p1
      have q2 := up ks x xs j b p2
      have q3 := up ls y ys i c p3
      have q4 := up ls y ys j d p4
      rw [← hk] at q3 q4
      exact H _ _ _ _ _ _ q1 q2 q3 q4
    · have h' : y ∉ ls := fun t => h (hmem.mpr t)
      have e1 : numStep ks x = ks ++ [x] := if_neg h
      have e2 : numStep ls y = ls ++ [y] := if_neg h'
      rw [numStep_new h, numStep_new h', hk, e1, e2]
      refine congrArg _ (numGo_congr xs ys (ks ++ [x]) (ls ++ [y]) (by simpa using hl) (by simp [hk]) (fun i j a b c d p1 p2 p3 p4 => ?_) ?_ ?_)
      · rw [List.append_assoc] at p1 p2 p3 p4
        exact H i j a b c d p1 p2 p3 p4
      · rw [List.nodup_append]
        exact ⟨n1, List.nodup_cons.mpr ⟨(fun t => nomatch t), List.nodup_nil⟩, fun a ha b hb e => h (by rw [← List.mem_singleton.mp hb, ← e]; exact ha)⟩
      · rw [List.nodup_append]
        exact ⟨n2, List.nodup_cons.mpr ⟨(fun t => nomatch t), List.nodup_nil⟩, fun a ha b hb e => h' (by rw [← List.mem_singleton.mp hb, ← e]; exact ha)⟩
theorem num_congr {κ μ : Type} [DecidableEq κ] [DecidableEq μ] {xs : List κ} {ys : List μ} (hl : xs.length = ys.length) (H : ∀ (i j : Nat) (x y : κ) (u v : μ), xs[i]? = some x → xs[j]? = some y → ys[i]? = some u → ys[j]? = some v → (x = y ↔ u = v)) : num xs = num ys :=
  numGo_congr xs ys [] [] hl rfl (fun i j x y u v a b c d => H i j x y u v a b c d) List.nodup_nil List.nodup_nil
end VL
/-! the value layer: numbering by a dict of the seen -/
namespace VL
open PySem
open PySem.Spec
open L2
section
variable {κ : Type} [DecidableEq κ] {kd : κ → D} {as : D → Option κ}
/-- the dict of the seen, from a number on -/
def seenFrom (kd : κ → D) : Nat → List κ → List (D × D)
  | _, [] => []
  | n, k :: ks => (kd k, .int (n : Nat)) :: seenFrom kd (n + 1) ks
def seenKV (kd : κ → D) (ks : List κ) : List (D × D) := seenFrom kd 0 ks
theorem seenFrom_len : ∀ (ks : List κ) (n : Nat), (seenFrom kd n ks).length = ks.length
  | [], _ => rfl
  | k :: ks, n => by
    show (seenFrom kd (n + 1) ks).length + 1 = _
    rw [seenFrom_len ks]
    rfl
theorem seenFrom_snoc : ∀ (ks : List κ) (n : Nat) (k : κ), seenFrom kd n (ks ++ [k]) = seenFrom kd n ks ++ [(kd k, .int ((n + ks.length : Nat) : Int))]
  | [], n, k => rfl
  | x :: ks, n, k => by
    show _ :: seenFrom kd (n + 1) (ks ++ [k]) = _
    rw [seenFrom_snoc ks, show n + 1 + ks.length = n + (x :: ks).length by rw [List.length_cons]; omega]
    rfl
theorem dg_seen (has : ∀ k, as (kd k) = some k) : ∀ (ks : List κ) (n : Nat) (k : κ), dg as (seenFrom kd n ks) k = if k ∈ ks then some (.int ((n + ks.idxOf k : Nat) : Int)) else none
  | [], n, k => rfl
  | x :: ks, n, k => by
    have ih := dg_seen has ks (n + 1) k
    unfold dg at ih ⊢
    show ((((kd x, PyData.int (n : Nat)) :: seenFrom kd (n + 1) ks).find? fun kv => decide (as kv.1 = some k)).map (·.2)) = _
    rw [List.find?_cons, has]
    by_cases q : x = k
    · subst q
      rw [decide_eq_true rfl, if_pos List.mem_cons_self, List.idxOf_cons_self]
      rfl
    · rw [decide_eq_false (fun t => q (Option.some.inj t))]
      show Option.map _ ((seenFrom kd (n + 1) ks).find? _) = _
      rw [ih]
      by_cases h : k ∈ ks
      · rw [if_pos h, if_pos (List.mem_cons_of_mem _ h), List.idxOf_cons, show (x == k) = false from beq_false_of_ne q, cond_false, show n + 1 + ks.idxOf k = n + (ks.idxOf k + 1) by omega]
      · rw [if_neg h, if_neg (fun t => (List.mem_cons.mp t).elim (fun e => q e.symm) h)]
theorem any_seen (has : ∀ k, as (kd k) = some k) : ∀ (ks : List κ) (n : Nat) (k : κ), ((seenFrom kd n ks).any fun kv => decide (as kv.1 = some k)) = decide (k ∈ ks)
  | [], n, k => rfl
  | x :: ks, n, k => by
    show (decide (as (kd x) = some k) || (seenFrom kd (n + 1) ks).any fun kv => decide (as kv.1 = some k)) = _
    rw [any_seen has ks, has]
    by_cases q : x = k
    · rw [decide_eq_true (by rw [q]), Bool.true_or, decide_eq_true (by rw [q]; exact List.mem_cons_self)]
    · rw [decide_eq_false (fun t => q (Option.some.inj t)), Bool.false_or]
      by_cases h : k ∈ ks
      · rw [decide_eq_true h, decide_eq_true (List.mem_cons_of_mem _ h)]
      · rw [decide_eq_false h, decide_eq_false (fun t => (List.mem_cons.mp t).elim (fun e => q e.symm) h)]
theorem dp_seen (has : ∀ k, as (kd k) = some k) {ks : List κ} {k : κ} (h : k ∉ ks) : dp kd as (seenKV kd ks) k (.int (ks.length : Nat)) = seenKV kd (ks ++ [k]) := by
  unfold dp seenKV
  rw [any_seen has, decide_eq_false h, if_neg (by decide), seenFrom_snoc, Nat.zero_add]
end
/-- the numbering loop: E, the slots by the seen, the found and the label -/
theorem num_loop {κ : Type} [DecidableEq κ] {kd : κ → D} {Gt : D → SE → M SE} {B : SE → M Ctl} (E : List κ → List Nat → Option D → SE) {m : MS}
    (step : ∀ (ks : List κ) (found : List Nat) (x : Option D) (k : κ), ks.length < 1000 → found.length < 1000 → ∃ e1 x', Ev (Gt (kd k) (E ks found x)) m e1 m ∧ Ev (B e1) m (.nx (E (numStep ks k) (found ++ [(numStep ks k).idxOf k]) x')) m) :
    ∀ (xs ks : List κ) (found : List Nat) (x : Option D), ks.length + xs.length ≤ 1000 → found.length + xs.length ≤ 1000 → ∃ ks' x', Ev (forL Gt B (xs.map kd) (E ks found x)) m (.nx (E ks' (found ++ numGo ks xs) x')) m
  | [], ks, found, x, _, _ => ⟨ks, x, by
    show Ev _ _ (Ctl.nx (E ks (found ++ []) x)) _
    rw [List.append_nil]
    rfl⟩
  | y :: xs, ks, found, x, h1, h2 => by
    rw [List.length_cons] at h1 h2
    obtain ⟨e1, x1, q1, q2⟩ := step ks found x y (by omega) (by omega)
    have hl := numStep_len (ks := ks) (k := y)
    obtain ⟨ks', x', q3⟩ := num_loop E step xs (numStep ks y) (found ++ [(numStep ks y).idxOf y]) x1 (by omega) (by rw [List.length_append, List.length_singleton]; omega)
    refine ⟨ks', x', ?_⟩
    show Ev _ _ (Ctl.nx (E ks' (found ++ ((numStep ks y).idxOf y :: numGo (numStep ks y) xs)) x')) _
    rw [show found ++ ((numStep ks y).idxOf y :: numGo (numStep ks y) xs) = found ++ [(numStep ks y).idxOf y] ++ numGo (numStep ks y) xs by simp]
    exact ev_bd q1 (ev_bd q2 q3)
/-- numbers as data -/
def natD (ns : List Nat) : List D := ns.map fun n => .int (n : Nat)
theorem natD_snoc (ns : List Nat) (n : Nat) : natD (ns ++ [n]) = natD ns ++ [.int (n : Nat)] := by simp [natD]
theorem natD_len (ns : List Nat) : (natD ns).length = ns.length := by simp [natD]
theorem natD_ints (ns : List Nat) : natD ns = (ns.map fun (n : Nat) => (n : Int)).map .int := by simp [natD]
/-- the body, a key met -/
theorem num_stepG {κ : Type} [DecidableEq κ] {kd : κ → D} {as : D → Option κ} (has : ∀ k, as (kd k) = some k) {hs : List (D × D) → D → Option Bool} {pt : List (D × D) → D → D → Option (List (D × D))} {gt : SE → M D} {iD iF iL : Nat}
    (hhs : ∀ kvs d, hs kvs d = (as d).map fun k => (dg as kvs k).isSome) (hpt : ∀ kvs k d, pt kvs k d = if kvs.length < lineN then (as k).map fun k => dp kd as kvs k d else none)
    (hgt : ∀ en m kvs k d, dicAt iD en = some kvs → en[iL]? = some (some (kd k)) → dg as kvs k = some d → Ev (gt en) m d m)
    {ks : List κ} {found : List Nat} {k : κ} {en : SE} {m : MS} (h1 : en[iD]? = some (some (.dict (seenKV kd ks)))) (h2 : en[iF]? = some (some (.list (natD found)))) (h3 : en[iL]? = some (some (kd k))) (d1 : iD ≠ iF) (d2 : iD ≠ iL) (hk : ks.length < 1000) (hf : found.length < 1000) :
    Ev (sq (sIf (eDin true hs iD (eVar iL)) (sDput pt iD (eVar iL) (eDlen iD)) sNx) (sMeth iF appD gt) en) m (.nx ((en.set iD (some (.dict (seenKV kd (numStep ks k))))).set iF (some (.list (natD (found ++ [(numStep ks k).idxOf k])))))) m := by
  have hl : iD < en.length := (List.getElem?_eq_some_iff.mp h1).1
  have dd : dicAt iD en = some (seenKV kd ks) := by unfold dicAt; rw [h1]
  have hhas : hs (seenKV kd ks) (kd k) = some (decide (k ∈ ks)) := by
    rw [hhs, has]
    show some ((dg as (seenFrom kd 0 ks) k).isSome) = _
    rw [dg_seen has]
    by_cases q : k ∈ ks
    · rw [if_pos q, decide_eq_true q]; rfl
    · rw [if_neg q, decide_eq_false q]; rfl
  have hset : (en.set iD (some (.dict (seenKV kd (numStep ks k)))))[iD]? = some (some (.dict (seenKV kd (numStep ks k)))) := List.getElem?_set_self hl
  have tail : Ev (sMeth iF appD gt (en.set iD (some (.dict (seenKV kd (numStep ks k)))))) m (.nx ((en.set iD (some (.dict (seenKV kd (numStep ks k))))).set iF (some (.list (natD (found ++ [(numStep ks k).idxOf k])))))) m := by
    refine v_app iF (ds := natD found) (d := .int ((numStep ks k).idxOf k : Nat)) ?_ (hgt _ _ (seenKV kd (numStep ks k)) k _ ?_ ?_ ?_) ?_
    · unfold lstAt
      rw [List.getElem?_set_ne d1, h2]
    · unfold dicAt
      rw [hset]
    · rw [List.getElem?_set_ne d2, h3]
    · show dg as (seenFrom kd 0 (numStep ks k)) k = _
      rw [dg_seen has, if_pos numStep_mem, Nat.zero_add]
    · unfold appD
      rw [if_pos (by rw [natD_len]; show found.length < 16000000; omega), natD_snoc]
  have hdin := v_din (neg := true) (has := hs) (o := decide (k ∈ ks)) (v_var (m := m) iL h3) dd hhas
  by_cases q : k ∈ ks
  · have e : numStep ks k = ks := if_pos q
    have e2 : en.set iD (some (.dict (seenKV kd (numStep ks k)))) = en := by
      rw [e]
      obtain ⟨hl, he⟩ := List.getElem?_eq_some_iff.mp h1
      rw [← he, List.set_getElem_self]
    rw [e2] at tail ⊢
    rw [decide_eq_true q] at hdin
    exact v_sq (v_sIfF hdin rfl) tail
  · have e : numStep ks k = ks ++ [k] := if_neg q
    rw [decide_eq_false q] at hdin
    refine v_sq (v_sIfT hdin (v_dput iD (kvs := seenKV kd ks) (r := seenKV kd (numStep ks k)) (v_dlen dd) dd (v_var iL h3) ?_)) tail
    have hsl : (seenKV kd ks).length = ks.length := seenFrom_len _ _
    rw [hpt, if_pos (by rw [hsl]; show ks.length < 16000000; omega), has, e, hsl]
    show some (dp kd as (seenKV kd ks) k (.int (ks.length : Nat))) = _
    rw [dp_seen has q]
theorem dgK_ev {iD iL : Nat} : ∀ (en : SE) (m : MS) (kvs : List (D × D)) (k : Key) (d : D), dicAt iD en = some kvs → en[iL]? = some (some (keyD k)) → dg asK kvs k = some d → Ev (eDgK iD (eVar iL) en) m d m := fun en m kvs k d h1 h2 h3 =>
  v_dgK h1 (v_var iL h2) (by rw [asK_keyD]; exact h3)
theorem dgT_ev {iD iL : Nat} : ∀ (en : SE) (m : MS) (kvs : List (D × D)) (k : List Key) (d : D), dicAt iD en = some kvs → en[iL]? = some (some (keyT k)) → dg asT kvs k = some d → Ev (eDgT iD (eVar iL) en) m d m := fun en m kvs k d h1 h2 h3 =>
  v_dgT h1 (v_var iL h2) (by rw [asT_keyT]; exact h3)
end VL
/-! the value layer: data of ints, shallow -/
namespace VL
open PySem
open PySem.Spec
open L2
def plD : Nat → D → Bool
  | _, .int i => decide (i.natAbs < 1000000000000)
  | _, .bool _ => true
  | _, .none => true
  | n + 1, .list xs => xs.all (plD n)
  | n + 1, .tuple xs => xs.all (plD n)
  | _, _ => false
theorem all_of {p q : D → Prop} {A : List D → Prop} (h0 : A []) (h1 : ∀ x xs, q x → A xs → A (x :: xs)) : ∀ xs : List D, (∀ x ∈ xs, q x) → A xs
  | [], _ => h0
  | x :: xs, h => h1 x xs (h x List.mem_cons_self) (all_of (p := p) h0 h1 xs fun y hy => h y (List.mem_cons_of_mem _ hy))
theorem plD_can : ∀ (n : Nat) (d : D), plD n d = true → d.canLay0 = true := by
  intro n
  induction n with
  | zero =>
    intro d h
    cases d <;> first | (simp [PyData.canLay0]; done) | cases h
  | succ n ih =>
    intro d h
    have key : ∀ xs : List D, xs.all (plD n) = true → PyData.canLayAll0 xs = true := by
      intro xs
      induction xs with
      | nil => intro _; simp [PyData.canLayAll0]
      | cons x xs ih2 =>
        intro h
        obtain ⟨h1, h2⟩ := Bool.and_eq_true_iff.mp h
        simp [PyData.canLayAll0, ih _ h1, ih2 h2]
    cases d with
    | list xs => simp only [PyData.canLay0]; exact key xs h
    | tuple xs => simp only [PyData.canLay0]; exact key xs h
    | _ => first | (simp [PyData.canLay0]; done) | cases h
theorem plD_depth : ∀ (n : Nat) (d : D), plD n d = true → d.depth ≤ n + 1 := by
  intro n
  induction n with
  | zero =>
    intro d h
    cases d <;> first | (simp [PyData.depth]; done) | cases h
  | succ n ih =>
    intro d h
    have key : ∀ xs : List D, xs.all (plD n) = true → PyData.depthAll xs ≤ n + 1 := by
      intro xs
      induction xs with
      | nil => intro _; simp [PyData.depthAll]
      | cons x xs ih2 =>
        intro h
        obtain ⟨h1, h2⟩ := Bool.and_eq_true_iff.mp h
        have a1 := ih _ h1
        have a2 := ih2 h2
        simp only [PyData.depthAll]
        omega
    cases d with
    | list xs =>
      have := key xs h
      simp only [PyData.depth]
      omega
    | tuple xs =>
      have := key xs h
      simp only [PyData.depth]
      omega
    | _ => first | (simp [PyData.depth]; done) | cases h
theorem plD_shaped {n : Nat} {d : D} (hn : n < 60) (h : plD n d = true) : SeqAt.shaped d = true := by
  unfold SeqAt.shaped
  rw [plD_can n d h, Bool.true_and]
  have := plD_depth n d h
  exact decide_eq_true (by omega)
theorem log2_small {n : Nat} (h : n < 1000000000000) : n.log2 < 1920 := by
  by_cases q : n = 0
  · subst q
    decide
  · have : n.log2 < 64 := (Nat.log2_lt q).mpr (Nat.lt_trans h (by decide))
    omega
theorem plD_show : ∀ (n : Nat) (d : D), plD n d = true → d.showable = true := by
  intro n
  induction n with
  | zero =>
    intro d h
    cases d <;> first | (simp [PyData.showable]; done) | (simp only [PyData.showable]; exact decide_eq_true (log2_small (of_decide_eq_true h))) | cases h
  | succ n ih =>
    intro d h
    have key : ∀ xs : List D, xs.all (plD n) = true → PyData.showableAll xs = true := by
      intro xs
      induction xs with
      | nil => intro _; simp [PyData.showableAll]
      | cons x xs ih2 =>
        intro h
        obtain ⟨h1, h2⟩ := Bool.and_eq_true_iff.mp h
        simp [PyData.showableAll, ih _ h1, ih2 h2]
    cases d with
    | list xs => simp only [PyData.showable]; exact key xs h
    | tuple xs => simp only [PyData.showable]; exact key xs h
    | int i => simp only [PyData.showable]; exact decide_eq_true (log2_small (of_decide_eq_true h))
    | _ => first | (simp [PyData.showable]; done) | cases h
theorem plD_leaves : ∀ (n : Nat) (d : D), plD n d = true → d.leavesShort 13 = true := by
  have hint : ∀ i : Int, i.natAbs < 1000000000000 → (PyData.int i).leavesShort 13 = true := fun i h => by
    simp only [PyData.leavesShort]
    exact decide_eq_true (PyData.shown_int_le2 (by omega) (by omega))
  intro n
  induction n with
  | zero =>
    intro d h
    cases d with
    | int i => exact hint i (of_decide_eq_true h)
    | _ => first | (simp [PyData.leavesShort]; done) | cases h
  | succ n ih =>
    intro d h
    have key : ∀ xs : List D, xs.all (plD n) = true → PyData.leavesShortAll 13 xs = true := by
      intro xs
      induction xs with
      | nil => intro _; simp [PyData.leavesShortAll]
      | cons x xs ih2 =>
        intro h
        obtain ⟨h1, h2⟩ := Bool.and_eq_true_iff.mp h
        simp [PyData.leavesShortAll, ih _ h1, ih2 h2]
    cases d with
    | list xs => simp only [PyData.leavesShort]; exact key xs h
    | tuple xs => simp only [PyData.leavesShort]; exact key xs h
    | int i => exact hint i (of_decide_eq_true h)
    | _ => first | (simp [PyData.leavesShort]; done) | cases h
/-- repr of shallow data of no great bulk -/
theorem reprD_plain {n : Nat} {d : D} (hn : n < 60) (h : plD n d = true) (hb : d.bulk ≤ 1000000) : reprD d = some (.str d.shown) := by
  have hl := PyData.shown_le_bulk 13 (by decide) d (plD_leaves n d h)
  unfold reprD
  rw [plD_show n d h, plD_shaped hn h, decide_eq_true (show d.shown.length ≤ lineN by show _ ≤ 16000000; omega)]
  rfl
/-! the shown text is text -/
def okS (x : Str) : Prop := ∀ c ∈ x.cps.toList, c < 0x110000
theorem okS_of (s : String) : okS (Str.ofString s) := by
  intro c hc
  rw [Str.ofString_eq_toList] at hc
  obtain ⟨x, _, rfl⟩ := List.mem_map.mp (show c ∈ s.toList.map Char.toNat from hc)
  have h : UInt32.isValidChar x.val := x.valid
  have h : x.val.toNat < 0xd800 ∨ (0xdfff < x.val.toNat ∧ x.val.toNat < 0x110000) := h
  show x.val.toNat < _
  omega
theorem okS_app {x y : Str} (hx : okS x) (hy : okS y) : okS (x ++ y) := by
  intro c hc
  have hc : c ∈ (x.cps ++ y.cps).toList := hc
  rw [Array.toList_append] at hc
  rcases List.mem_append.mp hc with h | h
  · exact hx c h
  · exact hy c h
theorem okS_from : ∀ (ts : List Str) (k : Nat) (acc : Str), okS acc → (∀ t ∈ ts, okS t) → okS (textFrom k acc ts)
  | [], _, _, h, _ => h
  | t :: ts, k, acc, h, ht => okS_from ts (k + 1) _ (okS_app (okS_app h (okS_of _)) (ht t List.mem_cons_self)) fun u hu => ht u (List.mem_cons_of_mem _ hu)
theorem okS_list {ts : List Str} (h : ∀ t ∈ ts, okS t) : okS (listText ts) := okS_app (okS_from ts 0 _ (okS_of _) h) (okS_of _)
theorem okS_join : ∀ (ts : List Str), (∀ t ∈ ts, okS t) → okS (Str.join ", " ts)
  | [], _ => fun c hc => nomatch hc
  | [x], h => h x List.mem_cons_self
  | x :: y :: r, h => okS_app (okS_app (h x List.mem_cons_self) (okS_of _)) (okS_join (y :: r) fun u hu => h u (List.mem_cons_of_mem _ hu))
theorem okS_tup {ts : List Str} (h : ∀ t ∈ ts, okS t) : okS (tupleText ts) := okS_app (okS_app (okS_of _) (okS_join ts h)) (okS_of _)
theorem plD_ok : ∀ (n : Nat) (d : D), plD n d = true → okS d.shown := by
  intro n
  induction n with
  | zero =>
    intro d h
    cases d with
    | list xs => cases h
    | tuple xs => cases h
    | str x => cases h
    | dict x => cases h
    | bool b => cases b <;> (simp only [PyData.shown]; exact okS_of _)
    | _ => simp only [PyData.shown]; exact okS_of _
  | succ n ih =>
    intro d h
    have key : ∀ xs : List D, xs.all (plD n) = true → ∀ t ∈ PyData.shownAll xs, okS t := by
      intro xs
      induction xs with
      | nil => intro _ t ht; simp [PyData.shownAll] at ht
      | cons x xs ih2 =>
        intro h t ht
        obtain ⟨h1, h2⟩ := Bool.and_eq_true_iff.mp h
        simp only [PyData.shownAll] at ht
        rcases List.mem_cons.mp ht with rfl | ht
        · exact ih _ h1
        · exact ih2 h2 t ht
    cases d with
    | list xs => simp only [PyData.shown]; exact okS_list (key xs h)
    | tuple xs => simp only [PyData.shown]; exact okS_tup (key xs h)
    | str x => cases h
    | dict x => cases h
    | bool b => cases b <;> (simp only [PyData.shown]; exact okS_of _)
    | _ => simp only [PyData.shown]; exact okS_of _
theorem eqD_str {x : Str} (hx : okS x) : eqD (.str x) (.str x) = some (.bool true) := by
  have ho : PyData.strOk x = true := by
    unfold PyData.strOk
    rw [Array.all_eq_true_iff_forall_mem]
    exact fun c hc => decide_eq_true (hx c (Array.mem_toList_iff.mpr hc))
  have hs : SeqAt.shaped (.str x) = true := by
    unfold SeqAt.shaped
    simp [PyData.canLay0, PyData.depth, ho]
  unfold eqD
  rw [hs, SeqAt.eqv_refl _ (SeqAt.canLay_of_shaped hs)]
  rfl
theorem bulkAll_le {B : Nat} : ∀ xs : List D, (∀ x ∈ xs, x.bulk ≤ B) → PyData.bulkAll xs ≤ (B + 1) * xs.length
  | [], _ => by simp [PyData.bulkAll]
  | x :: xs, h => by
    have h1 := h x List.mem_cons_self
    have h2 := bulkAll_le xs fun y hy => h y (List.mem_cons_of_mem _ hy)
    simp only [PyData.bulkAll, List.length_cons, Nat.mul_add, Nat.mul_one]
    omega
end VL
/-! the value layer: a loop that may return -/
namespace VL
open PySem
open L2
theorem v_search {Gt : D → SE → M SE} {B : SE → M Ctl} {m : MS} {r : D} (I : Nat → SE → Prop) (bad : Nat → Bool) : ∀ (ds : List D) (i : Nat) (en : SE), I i en →
    (∀ j d en, ds[j]? = some d → I (i + j) en → ∃ e1, Ev (Gt d en) m e1 m ∧ ((bad (i + j) = false ∧ ∃ e2, Ev (B e1) m (.nx e2) m ∧ I (i + j + 1) e2) ∨ (bad (i + j) = true ∧ Ev (B e1) m (.rt r) m))) →
    ((∃ j, j < ds.length ∧ bad (i + j) = true) ∧ Ev (forL Gt B ds en) m (.rt r) m) ∨ ((∀ j, j < ds.length → bad (i + j) = false) ∧ ∃ e', Ev (forL Gt B ds en) m (.nx e') m ∧ I (i + ds.length) e')
  | [], i, en, h, _ => .inr ⟨fun j hj => absurd hj (Nat.not_lt_zero _), en, rfl, h⟩
  | d :: ds, i, en, h, step => by
    obtain ⟨e1, h1, h2⟩ := step 0 d en rfl h
    rcases h2 with ⟨hb, e2, h2, h3⟩ | ⟨hb, h2⟩
    · have ih := v_search I bad ds (i + 1) e2 h3 fun j d en hj hI => by
        have := step (j + 1) d en (by simpa using hj) (by rw [show i + (j + 1) = i + 1 + j by omega]; exact hI)
        rwa [show i + (j + 1) = i + 1 + j by omega] at this
      rcases ih with ⟨⟨j, q1, q2⟩, q3⟩ | ⟨q1, e', q2, q3⟩
      · exact .inl ⟨⟨j + 1, by rw [List.length_cons]; omega, by rw [show i + (j + 1) = i + 1 + j by omega]; exact q2⟩, ev_bd h1 (ev_bd h2 q3)⟩
      · refine .inr ⟨fun j hj => ?_, e', ev_bd h1 (ev_bd h2 q2), by rw [List.length_cons, show i + (ds.length + 1) = i + 1 + ds.length by omega]; exact q3⟩
        cases j with
        | zero => exact hb
        | succ j =>
          rw [show i + (j + 1) = i + 1 + j by omega]
          exact q1 j (by rw [List.length_cons] at hj; omega)
    · exact .inl ⟨⟨0, by rw [List.length_cons]; omega, hb⟩, ev_bd h1 (ev_bd h2 rfl)⟩
end VL
/-! the value layer: stepping by one word -/
namespace VL
open PySem
open PySem.Spec
open L2
theorem shapedI (i : Int) : SeqAt.shaped (.int i) = true := by
  unfold SeqAt.shaped
  simp [PyData.canLay0, PyData.depth]
theorem eqD_I (a b : Int) : eqD (.int a) (.int b) = some (.bool (decide (a = b))) := by
  unfold eqD
  rw [shapedI, shapedI]
  show some (PyData.bool (a == b)) = _
  by_cases h : a = b
  · rw [decide_eq_true h, show (a == b) = true from beq_iff_eq.mpr h]
  · rw [decide_eq_false h, show (a == b) = false from beq_eq_false_iff_ne.mpr h]
theorem neD_I (a b : Int) : neD (.int a) (.int b) = some (.bool (!decide (a = b))) := by
  unfold neD
  rw [shapedI, shapedI]
  show some (PyData.bool (!(a == b))) = _
  by_cases h : a = b
  · rw [decide_eq_true h, show (a == b) = true from beq_iff_eq.mpr h]
  · rw [decide_eq_false h, show (a == b) = false from beq_eq_false_iff_ne.mpr h]
section
variable {a b : Int}
theorem eqT (h : a = b) : eqD (.int a) (.int b) = some (.bool true) := by rw [eqD_I, decide_eq_true h]
theorem eqF (h : a ≠ b) : eqD (.int a) (.int b) = some (.bool false) := by rw [eqD_I, decide_eq_false h]
theorem neT (h : a ≠ b) : neD (.int a) (.int b) = some (.bool true) := by rw [neD_I, decide_eq_false h]; rfl
theorem neF (h : a = b) : neD (.int a) (.int b) = some (.bool false) := by rw [neD_I, decide_eq_true h]; rfl
theorem ltT (h : a < b) : ltD (.int a) (.int b) = some (.bool true) := by
  show some (PyData.bool (decide (a < b))) = _
  rw [decide_eq_true h]
theorem ltF (h : ¬ a < b) : ltD (.int a) (.int b) = some (.bool false) := by
  show some (PyData.bool (decide (a < b))) = _
  rw [decide_eq_false h]
theorem leT (h : a ≤ b) : leD (.int a) (.int b) = some (.bool true) := by
  show some (PyData.bool (decide (a ≤ b))) = _
  rw [decide_eq_true h]
theorem leF (h : ¬ a ≤ b) : leD (.int a) (.int b) = some (.bool false) := by
  show some (PyData.bool (decide (a ≤ b))) = _
  rw [decide_eq_false h]
theorem gtT (h : b < a) : gtD (.int a) (.int b) = some (.bool true) := by
  show some (PyData.bool (decide (b < a))) = _
  rw [decide_eq_true h]
theorem gtF (h : ¬ b < a) : gtD (.int a) (.int b) = some (.bool false) := by
  show some (PyData.bool (decide (b < a))) = _
  rw [decide_eq_false h]
theorem geT (h : b ≤ a) : geD (.int a) (.int b) = some (.bool true) := by
  show some (PyData.bool (decide (b ≤ a))) = _
  rw [decide_eq_true h]
theorem geF (h : ¬ b ≤ a) : geD (.int a) (.int b) = some (.bool false) := by
  show some (PyData.bool (decide (b ≤ a))) = _
  rw [decide_eq_false h]
end
theorem v_nx {en : SE} {m : MS} : Ev (sNx en) m (.nx en) m := rfl
theorem v_sct {en : SE} {m : MS} : Ev (sCt en) m (.ct en) m := rfl
theorem v_sbk {en : SE} {m : MS} : Ev (sBk en) m (.bk en) m := rfl
theorem v_nox {S : SE → M Ctl} {en : SE} {m m' : MS} {k : Ctl} (h : Ev (S en) m k m') : Ev (sNox S en) m k m' := ev_nox h
theorem rng1_n {n : Nat} (h : n ≤ 100000) : rng1 [.int (n : Nat)] = some (rngI 0 n) := by
  unfold rng1
  simp only [Int.toNat_natCast]
  rw [if_pos ⟨by omega, by omega⟩]
theorem lrng_n {n : Nat} (h : n ≤ 100000) : lrngD (.int (n : Nat)) = some (.list (rngI 0 n)) := by
  unfold lrngD
  simp only [Int.toNat_natCast]
  rw [if_pos ⟨by omega, by omega, by omega⟩]
theorem rngI_len {lo : Int} {n : Nat} : (rngI lo n).length = n := by
  unfold rngI
  rw [List.length_map, List.length_range]
theorem w_c {d d' : D} {en : SE} {m : MS} (h : d = d') : Ev (eC d en) m d' m := by subst h; rfl
theorem w_nx {en en' : SE} {m : MS} (h : en = en') : Ev (sNx en) m (.nx en') m := by subst h; rfl
theorem w_ct {en en' : SE} {m : MS} (h : en = en') : Ev (sCt en) m (.ct en') m := by subst h; rfl
theorem w_bk {en en' : SE} {m : MS} (h : en = en') : Ev (sBk en) m (.bk en') m := by subst h; rfl
section
variable {en e' : SE} {m m1 m2 : MS} {F G : SE → M D} {A : SE → M (List D)} {a b d : D} {ds : List D}
theorem w_notF {T : SE → M Bool} (h : Ev (T en) m true m1) : Ev (tNot1 T en) m false m1 := v_not h
theorem w_notT {T : SE → M Bool} (h : Ev (T en) m false m1) : Ev (tNot1 T en) m true m1 := v_not h
theorem w_drop (h : Ev (F en) m d m1) (he : en = e') : Ev (sDrop F en) m (.nx e') m1 := by subst he; exact v_drop h
theorem w_set (i : Nat) (h : Ev (F en) m d m1) (he : en.set i (some d) = e') : Ev (sSet i F en) m (.nx e') m1 := by subst he; exact v_set i h
theorem w_setO (i : Nat) (h : Ev (F en) m d m1) (he : en.set i (some d) = e') (hl : i < en.length) : Ev (sSetO i F en) m (.nx e') m1 := by subst he; exact v_setO i h hl
theorem w_par (i j : Nat) (h : Ev (A en) m [a, b] m1) (he : (en.set i (some a)).set j (some b) = e') : Ev (sPar i j A en) m (.nx e') m1 := by subst he; exact v_par i j h
theorem w_parO (i j : Nat) (h : Ev (F en) m a m1) (h' : Ev (G en) m1 b m2) (he : (en.set i (some a)).set j (some b) = e') (hl : i < en.length ∧ j < en.length) : Ev (sParO i j F G en) m (.nx e') m2 := by subst he; exact v_parO i j h h' hl
theorem w_app (i : Nat) {r : List D} {g : List D → D → Option (List D)} (hl : lstAt i en = some ds) (h : Ev (F en) m d m1) (k : g ds d = some r) (he : en.set i (some (.list r)) = e') : Ev (sMeth i g F en) m (.nx e') m1 := by subst he; exact v_app i hl h k
theorem w_setIx (i : Nat) {r : List D} (h : Ev (F en) m d m1) (hl : lstAt i en = some ds) (h' : Ev (G en) m1 a m2) (k : setIx ds a d = some r) (he : en.set i (some (.list r)) = e') : Ev (sSetIx i G F en) m (.nx e') m2 := by subst he; exact v_setIx i h hl h' k
theorem w_aug (i : Nat) {g : D → D → Option D} (h : en[i]? = some (some a)) (h' : Ev (F en) m b m1) (k : g a b = some d) (he : en.set i (some d) = e') : Ev (sAug i g F en) m (.nx e') m1 := by subst he; exact v_aug i h h' k
theorem w_gNm (i : Nat) (h : en.set i (some d) = e') : Ev (gNm i d en) m e' m := by subst h; rfl
theorem w_gTp2 (i j : Nat) (h : (en.set i (some a)).set j (some b) = e') : Ev (gTp 2 (gC (gNm i) (gC (gNm j) gN0)) (.tuple [a, b]) en) m e' m := by subst h; rfl
end
end VL

open PySem PySem.Spec L2 VL
local macro_rules | `(tactic| decreasing_trivial_pre_omega) => `(tactic| first
  | with_reducible assumption
  | ((with_reducible apply eqT); first | assumption | omega) | ((with_reducible apply eqF); first | assumption | omega)
  | ((with_reducible apply neT); first | assumption | omega) | ((with_reducible apply neF); first | assumption | omega)
  | ((with_reducible apply ltT); first | assumption | omega) | ((with_reducible apply ltF); first | assumption | omega)
  | ((with_reducible apply leT); first | assumption | omega) | ((with_reducible apply leF); first | assumption | omega)
  | ((with_reducible apply gtT); first | assumption | omega) | ((with_reducible apply gtF); first | assumption | omega)
  | ((with_reducible apply geT); first | assumption | omega) | ((with_reducible apply geF); first | assumption | omega)
  | rfl
  | assumption)
local macro_rules | `(tactic| and_intros) => `(tactic| first
  | with_reducible exact v_aN
  | ((with_reducible apply w_c); rfl)
  | with_reducible exact v_tYs _ _
  | ((with_reducible apply w_nx); rfl)
  | ((with_reducible apply w_ct); rfl)
  | ((with_reducible apply w_bk); rfl)
  | ((with_reducible apply w_gNm _); rfl)
  | ((with_reducible apply v_var _); first | rfl | assumption)
  | ((with_reducible apply v_aC) <;> and_intros)
  | ((with_reducible apply v_e1) <;> and_intros)
  | ((with_reducible apply v_e2) <;> and_intros)
  | ((with_reducible apply v_eL) <;> and_intros)
  | ((with_reducible apply v_tV) <;> and_intros)
  | ((with_reducible apply v_eB) <;> and_intros)
  | ((with_reducible apply w_notF); focus (and_intros; done))
  | ((with_reducible apply w_notT); focus (and_intros; done))
  | ((with_reducible apply v_not) <;> and_intros)
  | ((with_reducible apply v_call) <;> and_intros)
  | ((with_reducible apply v_callM) <;> and_intros)
  | ((with_reducible apply v_ifT); (focus (and_intros; done)); and_intros)
  | ((with_reducible apply v_ifF); (focus (and_intros; done)); and_intros)
  | ((with_reducible apply v_andF); focus (and_intros; done))
  | ((with_reducible apply v_andT); (focus (and_intros; done)); and_intros)
  | ((with_reducible apply v_orT); focus (and_intros; done))
  | ((with_reducible apply v_orF); (focus (and_intros; done)); and_intros)
  | ((with_reducible apply v_c3F) <;> (focus (and_intros; done)))
  | ((with_reducible apply v_c3T) <;> and_intros)
  | ((with_reducible apply v_iA) <;> and_intros)
  | ((with_reducible apply v_iL) <;> and_intros)
  | ((with_reducible apply v_lc) <;> and_intros)
  | ((with_reducible apply v_sq); (focus (and_intros; done)); and_intros)
  | ((with_reducible apply v_sqR); focus (and_intros; done))
  | ((with_reducible apply v_sq) <;> and_intros)
  | ((with_reducible apply w_set _) <;> and_intros)
  | ((with_reducible apply w_setO _) <;> and_intros)
  | ((with_reducible apply v_ret) <;> and_intros)
  | ((with_reducible apply w_drop) <;> and_intros)
  | ((with_reducible apply w_par _ _) <;> and_intros)
  | ((with_reducible apply w_parO _ _) <;> and_intros)
  | ((with_reducible apply v_asg) <;> and_intros)
  | ((with_reducible apply w_aug _) <;> and_intros)
  | ((with_reducible apply v_for) <;> and_intros)
  | ((with_reducible apply v_sIfT); (focus (and_intros; done)); and_intros)
  | ((with_reducible apply v_sIfF); (focus (and_intros; done)); and_intros)
  | ((with_reducible apply w_app _) <;> and_intros)
  | ((with_reducible apply v_nox) <;> and_intros)
  | ((with_reducible apply v_runR) <;> and_intros)
  | exact Nat.le_of_ble_eq_true rfl
  | exact ⟨Nat.le_of_ble_eq_true rfl, Nat.le_of_ble_eq_true rfl⟩
  | (show (_ : Option _) = _; decreasing_trivial_pre_omega)
  | (show (_ : List _) = _; rfl)
  | ((with_reducible apply w_gTp2 _ _); rfl)
  | ((with_reducible apply w_setIx _) <;> and_intros)
  | (show Ev _ _ _ _; with_reducible assumption)
  | (show _ ≤ lineN; assumption)
  | (show Ev (lcL _ _) _ _ _; assumption)
  | (show Ev (forL _ _ _ _) _ _ _; assumption)
  | skip)
/-! the value layer: an own error's __init__ that says super().__init__ -/
namespace VL
open PySem
open PySem.Spec
open L2
section
variable {X : Cx} {pins : List (Addr × Obj)} {σ : L2.St} {H : Hp} {s : Shared} {a C cc cda fI : Addr}
/-- what the written part says of the class, for super() -/
structure SupK (P : Program) (K : PySem.W.Frag) (mg : Str → Option Value) (C cc cda fI : Addr) (fd : FuncData) : Prop where
  oex : OexC K C
  fn : ∃ oc od osl, K.lookup fI = some ⟨oc, od, .func fd, osl⟩
  cell : ∃ oc od osl, K.lookup cc = some ⟨oc, od, .cell (some (.ref C)), osl⟩
  file : ∃ oc od osl vs f tf, K.lookup cda = some ⟨oc, od, .fields vs, osl⟩ ∧ vs[2]? = some (.str f tf) ∧ ((P.main.file : Str) == f) = true
  top : (P.main.scope.names.lookup ("super" : Str)).isSome = false
  nos : mg "super" = none
  opq : PySem.W.nsIn K cStatics "thirdparty.any" = some none
  sup : PySem.W.ks_superIn K C C "__init__" = some (some (.builtin "ValueError.__init__"))
  veb : PySem.W.mroIn K C (.type "ValueError") = some true
  own : PySem.W.mroIn K C (.ref C) = some true
theorem sup_stmt {fd : FuncData} {ar : Arg} {body : List Stmt} {msg : Str} {j} {p0 p1 p2 p3 p4 p5 : Pos} (S : SupK X.prog X.K X.mg C cc cda fI fd) (I : Inv X pins σ H s) (e : H a = some (exo a C none))
    (hp : (fd.params.posonlyargs ++ fd.params.args).head? = some ar) (har : ar.arg = "self") (hfu : X.env.func = some fI) (hco : X.env.code = .ref cda) (hcl : X.env.cells.lookup ("__class__" : Str) = some cc)
    (hks : X.env.kindOf "super" = some .globalImplicit) (hkc : X.env.kindOf "__class__" = some .free) (hka : X.env.kindOf "self" = some .local) (h0 : X.N[0]? = some ("self" : Str)) (hs0 : σ[0]? = some (some (V.ref a)))
    (hi : interactive X.env = false) (hsw : swapsWith (.Call (.Attribute (.Call (.Name "super" p0) [] [] p1) "__init__" p2) [.Constant (.str msg) j p3] [] p4) none p5.line X.env = pure false)
    (he : ∃ pl : Sem Bool, eval (.Call (.Attribute (.Call (.Name "super" p0) [] [] p1) "__init__" p2) [.Constant (.str msg) j p3] [] p4) X.env = (do
      let ov ← attributeBase (.Call (.Name "super" p0) [] [] p1) "__init__" X.env (eval (.Call (.Name "super" p0) [] [] p1) X.env)
      standAt p2.atName
      let (f, first) ← holding [ov] (getMethod ov "__init__" pl)
      callWith p4 f first (backTo p4 (starEach [.Constant (.str msg) j p3] X.env)) []))
    (hst : starEach [.Constant (.str msg) j p3] X.env = (false, eval (.Constant (.str msg) j p3) X.env) :: starEach [] X.env) (hpl : (backTo p4 (starEach [] X.env)).any (·.1) = false) :
    wpAt (model X.prog X.w) X.A (.func body X.env) (exec (.Expr (.Call (.Attribute (.Call (.Name "super" p0) [] [] p1) "__init__" p2) [.Constant (.str msg) j p3] [] p4) p5) X.env) (fun fl s' => fl = .next ∧ Inv X pins σ H s') X.xe s := by
  obtain ⟨pl, he⟩ := he
  obtain ⟨oc1, od1, sl1, kf⟩ := S.fn
  obtain ⟨oc2, od2, sl2, kc⟩ := S.cell
  obtain ⟨oc3, od3, sl3, vs, fl, tf, kd, hvs, hfile⟩ := S.file
  have kin := I.kIn
  refine PySem.ks_wpAt_Expr_any ?_ hi hsw
  refine PySem.ks_wpAt_MethodCall (pl := pl) ?_ he
  obtain ⟨mb, hb1, hb2⟩ := I.mod.blt
  obtain ⟨m, hns, hloc⟩ := I.loc
  have hself : m "self" = some (.ref a) := by
    obtain ⟨u, hu, hl⟩ := hloc 0 "self" (.ref a) h0 hs0 (.inl hka)
    have hu : u = .ref a := hu
    subst hu
    rcases hl with ⟨_, q⟩ | ⟨q, _⟩
    · exact q
    · rcases q with q | q
      · rw [hka] at q; cases q
      · rw [hka] at q; cases q
  obtain ⟨nm, q, N, bs, bm, sn, sub, ab, col, dd, k0, k1, k2, k3, k5, hC, hbm⟩ := S.oex.cls
  obtain ⟨t1, ho⟩ := exo_at I.hok e
  have hcls : PySem.W.clsIn X.K C = some { name := nm, bases := bs, mro := .ref C :: bm, ns := N, qualname := q, hasDict := true, slotNames := sn, subclasses := sub, abstract := ab, collection := col, hasDel := false } := by
    unfold PySem.W.clsIn
    rw [hC]
  have hCh := kin _ _ hC
  have IA : PySem.W.InstAt s.heap a _ C none := ⟨ho, rfl, rfl, trivial⟩
  have hxC : a ≠ C := PySem.W.ks_ne kin IA hcls
  refine PySem.ks_wpAt_super_base (f := fI) (cc := cda) hks hkc (by decide) hfu (kin _ _ kf) rfl hp hco (kin _ _ kd) rfl hvs hfile S.top ?_
  refine PySem.W.ks_loadName_global I.ok.kind hks (Calls.loadGlobal_builtin (by rw [I.ok.glob]; exact I.mod.glob.keeps I.bk) S.nos (by rw [I.ok.blt]; exact hb1.keeps I.bk) ((hb2 _ (by decide)).trans (show bootBuiltins "super" = some (.type "super") by decide +kernel)) ⟨rfl, ?_⟩)
  refine wpAny_loadName_free I.ok.kind hkc hcl ⟨_, kin _ _ kc, rfl⟩ ?_
  rw [har]
  refine wpAny_loadName_local I.ok.kind hka hns hself ?_
  obtain ⟨s0, g, d, t, os⟩ := s
  refine PySem.ks_wpAny_isType_cls hCh rfl ⟨rfl, ?_⟩
  refine PySem.ks_wpAny_call_super hCh rfl ho rfl (fun c z => by cases z) (PySem.W.looks_mroIn kin S.own) (fun h1 e1 k1' => ?_)
  have I1 : Inv X pins σ H ⟨h1, g, d, t, os⟩ := I.kept k1'
  have kin1 := I1.kIn
  have IA1 : PySem.W.InstAt h1 a _ C none := ⟨k1' _ _ ho, rfl, rfl, trivial⟩
  refine PySem.W.kxs_getMethod PySem.W.kxs_ValueError e1 (PySem.W.looks_opaque kin1 S.opq) (l₀ := .ref C :: bm) (fun A Q E s k q => wpAny_bind ((PySem.W.looks_clsIn kin1 hcls) A _ E s k (wpAny_pure q))) rfl kin1 ?_ (IA1.type.andThen (PySem.W.looks_mroIn kin1 S.veb)) hxC (by decide) ?_
  · have h := S.sup
    unfold PySem.W.ks_superIn at h
    rw [hcls] at h
    exact h
  have k2' : ∀ b o, h1.get? b = some o → (h1.push (PySem.W.kxs_mw "ValueError.__init__" a)).get? b = some o := fun b o z => Heap.get?_push_of_some _ z
  have I2 : Inv X pins σ H ⟨h1.push (PySem.W.kxs_mw "ValueError.__init__" a), g, d, t + 1, os⟩ := I1.kept (t' := t + 1) k2'
  have hu : (h1.push (PySem.W.kxs_mw "ValueError.__init__" a)).get? h1.objs.size = some (PySem.W.kxs_mw "ValueError.__init__" a) := Heap.get?_push_at rfl rfl
  have new : s0.objs.size ≤ h1.objs.size := by
    obtain ⟨o, z⟩ : ∃ o, h1.get? s0.objs.size = some o := ⟨_, e1⟩
    exact Nat.le_of_lt (Heap.lt_size z)
  have hfrz : H h1.objs.size = none := I1.hok.fresh (Nat.le_refl _)
  have I3 : Inv X ((h1.objs.size, PySem.W.kxs_mw "ValueError.__init__" a) :: pins) σ H ⟨h1.push (PySem.W.kxs_mw "ValueError.__init__" a), g, d, t + 1, os⟩ := by
    refine I2.pins_of fun p hp => ?_
    rcases List.mem_cons.mp hp with rfl | hp
    · exact ⟨hu, hfrz, fun z => absurd I1.lt (by rw [← z]; exact Nat.lt_irrefl _), I1.nofs (Nat.le_refl _), fun v z => by cases z⟩
    · exact I2.pin p (List.mem_append_right _ hp)
  rw [hst]
  refine PySem.W.kxs_callWith (i := "ValueError.__init__") (x := a) (by show (false || (backTo p4 (starEach [] X.env)).any (·.1)) = false; rw [hpl]; rfl) ?_
  have ev1 := (pa_cons (pe_str (X := X) (x := msg) (j := j) (pos := p3)) pa_nil hst).run p4 _ _ σ H (fun vs H' => vs = [.str msg] ∧ H' = H) I3 ⟨rfl, rfl⟩
  rw [hst] at ev1
  refine Calls.evalArgs_plain (wpAny_mono ev1 (fun us s4 hh => ?_) fun _ _ z => z)
  obtain ⟨ws, H4, I4, r4, hws, hH⟩ := hh
  subst hws
  rw [hH] at I4
  have hu4 : s4.heap.get? h1.objs.size = some (PySem.W.kxs_mw "ValueError.__init__" a) := (I4.pin _ (List.mem_append_right _ List.mem_cons_self)).1
  refine ⟨hu4, ?_⟩
  have I5 : L2.Inv X pins σ H s4 := I4.pins_of fun p hp => I4.pin p (List.mem_append_right _ (List.mem_cons_of_mem _ hp))
  obtain ⟨t5, ho5⟩ := exo_at I5.hok e
  have hz : us.length ≤ sizeLine := by
    rw [← r4.length]
    show 1 ≤ sizeLine
    decide
  have hC5 := I5.kIn _ _ hC
  have FB := F.excBase_ValueError
  obtain ⟨h5, g5, d5, tk5, os5⟩ := s4
  refine wpAny_call (codeAny_of_tree ?_)
  show wpAny _ X.A.in1 (callAny (.ref h1.objs.size) ⟨[] ++ us, []⟩) _ _ _
  simp only [callAny, List.nil_append]
  refine wpAny_bind (wpAny_load hu4 ?_)
  simp only [PySem.W.kxs_mw, show (Value.type "method-wrapper" == Value.type "method" || Value.type "method-wrapper" == Value.type "builtin_function_or_method" || Value.type "method-wrapper" == Value.type "method-wrapper") = true by decide, if_true]
  refine PySem.W.KFB.if_so (by decide) ?_
  refine wpAny_bind (PySem.W.check_bound_init FB.toExcCallFacts hC5 ho5 rfl ?_)
  refine wpAny_bind (wpAny_pure (wpAny_pure ?_))
  refine ⟨plainId_quiet FB.init.plain _, codeAny_builtin FB.initEntry ?_⟩
  refine PySem.W.exc_init_tree (cls := .ref C) (t0 := t5) (dv := none) (c2 := .none) (c3 := .none) (b4 := .bool false) ho5 hz fun h6 k6 x6 t6 => ?_
  have J := I5.write (t' := tk5) (x := a) (e := a) (o := exo a C none) (by rw [e]; exact True.intro) (.inl rfl) k6 ⟨_, x6⟩ (exo_ok x6)
  have eu : upd H a (exo a C none) = H := by
    funext b
    by_cases hb : b = a
    · rw [hb, upd_same, e]
    · rw [upd_ne hb]
  rw [eu] at J
  exact ⟨trivial, J⟩
end
end VL
/-! the value layer: the promise of such an __init__ -/
namespace VL
open PySem
open PySem.Spec
open L2
theorem lookup_app_none {x : Str} {u : Value} : ∀ {l : List (Str × Value)} {r : List (Str × Value)}, (∀ p ∈ l, p.1 ≠ x) → (l ++ (x, u) :: r).lookup x = some u
  | [], r, _ => by simp
  | (y, w) :: l, r, h => by
    have hy : y ≠ x := h (y, w) List.mem_cons_self
    rw [List.cons_append, List.lookup_cons]
    have : (x == y) = false := by simpa using fun e => hy e.symm
    rw [this]
    exact lookup_app_none fun p hp => h p (List.mem_cons_of_mem _ hp)
theorem lookup_rev {ps : List Str} {us : List Value} {i : Nat} {x : Str} {u : Value} (nd : ps.Nodup) (hx : ps[i]? = some x) (hu : us[i]? = some u) : (ps.zip us).reverse.lookup x = some u := by
  have hi := (List.getElem?_eq_some_iff.mp hx).1
  have hj := (List.getElem?_eq_some_iff.mp hu).1
  have hz : (ps.zip us)[i]? = some (x, u) := by rw [List.getElem?_zip_eq_some]; exact ⟨hx, hu⟩
  have hsplit : ps.zip us = (ps.zip us).take i ++ (x, u) :: (ps.zip us).drop (i + 1) := by
    have hl := (List.getElem?_eq_some_iff.mp hz).1
    have he := (List.getElem?_eq_some_iff.mp hz).2
    rw [← he, ← List.drop_eq_getElem_cons hl, List.take_append_drop]
  rw [hsplit, List.reverse_append, List.reverse_cons, List.append_assoc]
  refine lookup_app_none fun p hp e => ?_
  have hp := List.mem_reverse.mp hp
  obtain ⟨k, hk, rfl⟩ := List.getElem_of_mem hp
  rw [List.getElem_drop, List.getElem_zip] at e
  rw [List.length_drop, List.length_zip] at hk
  have e : ps[i + 1 + k]'(by omega) = x := e
  have := (List.getElem?_inj (i := i + 1 + k) (j := i) (by omega) nd).mp (by rw [List.getElem?_eq_getElem (by omega), e, hx])
  omega
def cxI (P : Program) (w : World) (K : PySem.W.Frag) (mg : Str → Option Value) (base : Heap) (N : List Str) (fd : FuncData) (f : Addr) (A : Around) (outer : List Env) (s : Shared) (H : Hp) (xe : Value → Shared → Prop) : Cx where
  prog := P
  w := w
  K := K
  mg := mg
  base := base
  A := A.deeper (callEnv fd s.heap.objs.size f)
  N := N
  s_0 := s
  H_0 := H
  env := callEnv fd s.heap.objs.size f
  outer := outer
  stack := callEnv fd s.heap.objs.size f :: outer
  ex := []
  calm := true
  fn := fun _ => false
  pn := []
  xe := xe
section
variable {P : Program} {w : World} {K : PySem.W.Frag} {mg : Str → Option Value} {base : Heap} {CX : CXT} {k : Nat} {C cc cda fI : Addr} {name qual : Str} {params : Arguments} {scope : Scope} {dV kV doc pm ct : Value} {an : Option Addr} {msg : Str} {j : Nat} {p0 p1 p2 p3 p4 p5 : Pos} {rest : List Stmt} {ps : List Str} {sp : Sp} {ar : Arg} {t : TS}
abbrev supSt (msg : Str) (j : Nat) (p0 p1 p2 p3 p4 p5 : Pos) : Stmt := .Expr (.Call (.Attribute (.Call (.Name "super" p0) [] [] p1) "__init__" p2) [.Constant (.str msg) j p3] [] p4) p5
abbrev fdI (name qual : Str) (params : Arguments) (body : List Stmt) (scope : Scope) (dV kV doc pm : Value) (an : Option Addr) (cda : Addr) (ct : Value) (cc : Addr) : FuncData := PySem.W.ksFn name qual params body scope dV kV doc pm an (.ref cda) ct cc
theorem invI {A : Around} {outer : List Env} {s : Shared} {H : Hp} {xe : Value → Shared → Prop} {us : List Value} {vs : List V} {h0 : Heap} {tk : Nat} {body : List Stmt}
    (hk : scope.kind = .function) (nd : ps.Nodup) (hps : ∀ x ∈ ps, scope.names.lookup x = some .local) (hfree : ∀ y ∈ scope.names, y.2 = .cell ∨ y.2 = .free → y.1 = "__class__")
    (hcc : ∃ oc od osl, K.lookup cc = some ⟨oc, od, .cell (some (.ref C)), osl⟩) (hd : A.handled = none) (e0 : Env0 P w K mg base A outer s H) (hl : vs.length = ps.length) (r : Vals vs us)
    (hns : h0.Ns s.heap.objs.size fun x => (ps.zip us).reverse.lookup x) (kp : ∀ b o, s.heap.get? b = some o → h0.get? b = some o) :
    L2.Inv (cxI P w K mg base ps (fdI name qual params body scope dV kV doc pm an cda ct cc) fI A outer s H xe) [] (L2.start ps vs) H { s with heap := h0, toks := tk } := by
  have kinS : K.In s.heap := e0.mod.kin.keeps fun b o q => (e0.bs b o q).1
  obtain ⟨oc, od, osl, hc⟩ := hcc
  have one : ∀ y c, List.lookup y ([(("__class__" : Str), cc)] : List (Str × Addr)) = some c → y = "__class__" ∧ c = cc := fun y c h => by
    rw [List.lookup_cons] at h
    cases q : (y == ("__class__" : Str)) with
    | true => rw [q] at h; exact ⟨by simpa using q, (Option.some.inj h).symm⟩
    | false => rw [q] at h; cases h
  have hcn : H cc = none := (e0.bs _ _ (e0.mod.kin _ _ hc)).2
  refine ⟨⟨e0.mod, hk, rfl, rfl, Nat.le_refl _, fun y z c h1 h2 => ?_, fun y hy => ?_, (fun y c h => (nomatch h)), fun _ => hd, Around.frames_deeper e0.frames, .inr ⟨rfl, rfl⟩, fun b z => (nomatch z), e0.bs, e0.bsz, fun b _ _ z => (nomatch z), fun b z => (nomatch z), e0.funs, e0.frf⟩,
    rfl, e0.bare, Un.kept kp, ⟨_, hns, fun i y v h1 h2 h3 => ?_⟩, fun y c h => ?_, e0.hok.fresh (Nat.le_refl _), fun y c h => ?_, fun p hp => (nomatch hp), e0.hok.kept kp, ?_⟩
  · rw [(one y c h1).1, (one z c h2).1]
  · have hy : scope.names.lookup y = some .cell ∨ scope.names.lookup y = some .free := hy
    have : y = "__class__" := by
      rcases hy with hy | hy
      · exact hfree (y, .cell) (PySem.mem_of_lookup hy) (.inl rfl)
      · exact hfree (y, .free) (PySem.mem_of_lookup hy) (.inr rfl)
    subst this
    exact ⟨cc, rfl⟩
  · have hi : i < vs.length := by
      unfold L2.start at h2
      by_cases hi : i < vs.length
      · exact hi
      · rw [List.getElem?_append_right (by simpa using hi), List.getElem?_replicate] at h2
        split at h2 <;> cases h2
    have ha : vs[i]? = some v := by
      unfold L2.start at h2
      rw [List.getElem?_append_left (by simpa using hi), List.getElem?_map] at h2
      cases e : vs[i]? with
      | none => rw [e] at h2; cases h2
      | some a => rw [e] at h2; cases h2; rfl
    obtain ⟨u, hu, rv⟩ := r.get ha
    have hp : ps[i]? = some y := h1
    exact ⟨u, rv, .inl ⟨hps y (List.mem_of_getElem? hp), lookup_rev nd hp hu⟩⟩
  · obtain ⟨rfl, rfl⟩ := one y c h
    exact ⟨_, _, kp _ _ (kinS _ _ hc), rfl⟩
  · obtain ⟨rfl, rfl⟩ := one y c h
    exact hcn
  · unfold L2.start
    rw [List.length_append, List.length_map, List.length_replicate]
    show vs.length + (ps.length - vs.length) = ps.length
    omega
/-- the promise of an __init__ that says super().__init__(msg) first -/
theorem init_ok (S : SupK P K mg C cc cda fI (fdI name qual params (supSt msg j p0 p1 p2 p3 p4 p5 :: rest) scope dV kV doc pm an cda ct cc)) (hcd : PySem.W.codeIn K (.ref cda) qual = true)
    (hk : scope.kind = .function) (hco : scope.isCoroutine = false) (hgen : scope.isGenerator = false) (nd : ps.Nodup) (hps : ∀ x ∈ ps, scope.names.lookup x = some .local) (hfree : ∀ y ∈ scope.names, y.2 = .cell ∨ y.2 = .free → y.1 = "__class__") (hnc : ∀ y ∈ scope.names, y.2 ≠ .cell)
    (hp : (params.posonlyargs ++ params.args).head? = some ar) (har : ar.arg = "self") (hp0 : ps[0]? = some ("self" : Str)) (hsu : scope.names.lookup ("super" : Str) = some .globalImplicit) (hcl : scope.names.lookup ("__class__" : Str) = some .free)
    (hsp : ∀ vs H Q E, sp vs H Q E → ∃ a ys, vs = .ref a :: ys ∧ ys.length + 1 = ps.length ∧ H a = some (exo a C none) ∧ t { nx := fun _ H' => Q .non H', rt := Q } (L2.start ps vs) H)
    (hrest : ∀ (A : Around) (outer : List Env) (s : Shared) (H : Hp) (xe : Value → Shared → Prop), PSs (cxI P w K mg base ps (fdI name qual params (supSt msg j p0 p1 p2 p3 p4 p5 :: rest) scope dV kV doc pm an cda ct cc) fI A outer s H xe) rest t)
    (hsw : ∀ (env : Env), swapsWith (.Call (.Attribute (.Call (.Name "super" p0) [] [] p1) "__init__" p2) [.Constant (.str msg) j p3] [] p4) none p5.line env = pure false)
    (he : ∀ env : Env, ∃ pl : Sem Bool, eval (.Call (.Attribute (.Call (.Name "super" p0) [] [] p1) "__init__" p2) [.Constant (.str msg) j p3] [] p4) env = (do
      let ov ← attributeBase (.Call (.Name "super" p0) [] [] p1) "__init__" env (eval (.Call (.Name "super" p0) [] [] p1) env)
      standAt p2.atName
      let (f, first) ← holding [ov] (getMethod ov "__init__" pl)
      callWith p4 f first (backTo p4 (starEach [.Constant (.str msg) j p3] env)) []))
    (hst : ∀ env : Env, starEach [.Constant (.str msg) j p3] env = (false, eval (.Constant (.str msg) j p3) env) :: starEach [] env) (hpl : ∀ env : Env, (backTo p4 (starEach [] env)).any (·.1) = false) :
    FnOk P w K mg base CX k fI (fdI name qual params (supSt msg j p0 p1 p2 p3 p4 p5 :: rest) scope dV kV doc pm an cda ct cc) ps sp := by
  refine ⟨fun vs H Q E h => ?_, fun A outer s H args us vs Q E hr e0 hb r h => ?_⟩
  · obtain ⟨a, ys, rfl, hl, _⟩ := hsp vs H Q E h
    exact hl
  obtain ⟨a, ys, rfl, hl, ha, ht⟩ := hsp vs H Q E h
  obtain ⟨oc, od, osl, lk⟩ := S.fn
  have kin : K.In s.heap := e0.mod.kin.keeps fun b o q => (e0.bs b o q).1
  have nol : s.heap.NoLimit := e0.mod.nolimit.keeps fun b o q => (e0.bs b o q).1
  refine PySem.ks_codeAny_call_defAt hr.depth (kin _ _ lk) rfl nol (PySem.W.codeRec_of kin hcd) rfl hb hnc (fun x hx => hps x.1 (List.of_mem_zip (a := x.1) (b := x.2) hx).1) (fun h0 hns hkp => ?_) hco hgen hk
  have I0 : L2.Inv (cxI P w K mg base ps (fdI name qual params (supSt msg j p0 p1 p2 p3 p4 p5 :: rest) scope dV kV doc pm an cda ct cc) fI A outer s H
      (fun e s' => wpAny (model P w) (A.deeper (callEnv (fdI name qual params (supSt msg j p0 p1 p2 p3 p4 p5 :: rest) scope dV kV doc pm an cda ct cc) s.heap.objs.size fI)) (leaving (callEnv (fdI name qual params (supSt msg j p0 p1 p2 p3 p4 p5 :: rest) scope dV kV doc pm an cda ct cc) s.heap.objs.size fI) e) (fun _ s'' => CR CX outer P w H s Q E (.error e) s'') (fun e' s'' => CR CX outer P w H s Q E (.error e') s'') s'))
      [] (L2.start ps (.ref a :: ys)) H { s with heap := h0, toks := s.toks + (ps.zip us).length } :=
    invI hk nd hps hfree S.cell hr.hd e0 (by rw [List.length_cons]; exact hl) r hns hkp
  refine PySem.ks_wpAt_execs_cons (ks_wpAt_mono (sup_stmt S I0 ha hp har rfl rfl rfl hsu hcl (hps _ (List.mem_of_getElem? hp0)) hp0 rfl I0.quiet (hsw _) (he _) (hst _) (hpl _)) (fun fl s' hfl => ?_) fun _ _ z => z)
  obtain ⟨rfl, J⟩ := hfl
  refine wpAt_of_wpAny (wpAny_mono ((hrest A outer s H _).run [] s' _ H _ J ht) (fun fl s2 got => ?_) fun _ _ z => z)
  cases fl with
  | brk => exact let ⟨_, _, _, no⟩ := got; no.elim
  | cont => exact let ⟨_, _, _, no⟩ := got; no.elim
  | next => exact let ⟨_, H', J2, q⟩ := got; ⟨V.non, H', J2.os, J2.bare, J2.base, J2.hok, rfl, q⟩
  | ret u => exact let ⟨v, _, H', J2, rv, q⟩ := got; ⟨v, H', J2.os, J2.bare, J2.base, J2.hok, rv, q⟩
end
end VL
/-! the value layer: try with several clauses, each with or without a name -/
namespace VL
open PySem
open PySem.Spec
open L2
/-- a clause: its class, the slot of its name, what its suite reads -/
structure Hd where
  c : Value
  nm : Option Nat
  ts : Addr → Value → Option Addr → TS
/-- the ends of a suite that has a name in slot i -/
def forget (i : Nat) (D : Ends) : Ends := { nx := fun σ' H' => D.nx (σ'.set i none) H', rt := D.rt, bk := fun σ' H' => D.bk (σ'.set i none) H', ct := fun σ' H' => D.ct (σ'.set i none) H' }
def tSuite (h : Hd) (a : Addr) (cls : Value) (d : Option Addr) (D : Ends) (σ : L2.St) (H : Hp) : Prop := match h.nm with
  | none => h.ts a cls d D σ H
  | some i => h.ts a cls d (forget i D) (σ.set i (some (.ref a))) H
def wHd (K : PySem.W.Frag) (Wout : WX) (D : Ends) : List Hd → WX
  | [] => Wout
  | h :: r => fun cls d σ H => ∃ b, PySem.W.exmOne K cls h.c = some b ∧ (b = true → ∀ a, H a = none → tSuite h a cls d D σ H) ∧ (b = false → wHd K Wout D r cls d σ H)
inductive HdOk (X : Cx) : List ExceptHandler → List Hd → Prop
  | nil : HdOk X [] []
  | plain {x : Str} {c : Value} {ts : Addr → Value → Option Addr → TS} {st : Stmt} {sts : List Stmt} {np hp : Pos} {eh : List ExceptHandler} {l : List Hd} (hc : Names X x c)
      (hs : ∀ (a : Addr) (oe : Obj) (cls : Value) (d : Option Addr) (pl : List (Addr × Obj)), Zc cls d oe → (∃ vs, oe.data = .fields vs) → PSs (X.suite a ((a, oe) :: pl)) (st :: sts) (ts a cls d)) (r : HdOk X eh l) :
      HdOk X (.ExceptHandler (some (.Name x np)) none (st :: sts) hp :: eh) (⟨c, none, ts⟩ :: l)
  | named {x n : Str} {i : Nat} {c : Value} {ts : Addr → Value → Option Addr → TS} {st : Stmt} {sts : List Stmt} {np hp : Pos} {eh : List ExceptHandler} {l : List Hd} (hc : Names X x c) (hi : X.N[i]? = some n) (hl : X.env.kindOf n = some .local)
      (hs : ∀ (a : Addr) (oe : Obj) (cls : Value) (d : Option Addr) (pl : List (Addr × Obj)), Zc cls d oe → (∃ vs, oe.data = .fields vs) → PSs (X.suite a ((a, oe) :: pl)) (st :: sts) (ts a cls d)) (r : HdOk X eh l) :
      HdOk X (.ExceptHandler (some (.Name x np)) (some n) (st :: sts) hp :: eh) (⟨c, some i, ts⟩ :: l)
section
variable {X : Cx} {body : List Stmt} {e0 : ExceptHandler} {er : List ExceptHandler} {l : List Hd} {pos : Pos} {tb : WX → TS} {Wout : WX}
theorem ps_tryN (hstk : X.stack = X.env :: X.outer) (hfm : X.env.frame = some X.env.locals) (hND : X.N.Nodup) (tko : Takes X Wout)
    (hbd : ∀ (W : WX) (pl : List (Addr × Obj)) (xe : Value → Shared → Prop), Takes (X.tr pl xe) W → PassesOwn (model X.prog X.w) X.A X.env xe → PSs (X.tr pl xe) body (tb W))
    (hhd : HdOk X (e0 :: er) l) : PS X (.Try body (e0 :: er) [] [] pos) (fun D σ H => tb (wHd X.K Wout D l) D σ H) := by
  refine ⟨fun pins s σ H D I wish => ?_⟩
  have ok0 := I.ok
  have hframes : X.A.frames = some (X.env :: X.outer) := by
    rw [ok0.frames]
    exact congrArg some hstk
  refine wpAny_Try_except ?_
  let caught : Value → Shared → Prop := fun ex s1 => wpAny (model X.prog X.w) X.A (noteFrame ex X.env) (fun _ s2 => wpAny (model X.prog X.w) X.A (setFlight ex none) (fun _ s3 =>
    wpAny (model X.prog X.w) X.A (handleBy ex X.env (e0 :: er)) (SP X pins D) X.xe s3) X.xe s2) X.xe s1
  refine wpAny_mono ((hbd (wHd X.K Wout D l) (X.pn ++ pins) caught (fun u s' flown => ?_) PassesOwn.looking).run [] s σ H D (I.toTry _) wish) (fun fl s1 done => ?_) (fun ex s1 hx => hx)
  · obtain ⟨a, G, sE, pinsE, σE, HE, cls, d, rfl, IE', nbE, upE, skyE, naE, osE, agE, wE⟩ := flown
    have IE : L2.Inv X pins σE HE sE := IE'.ofTry ok0
    have skyE' : Sky G (X.env :: X.outer) a (Zc cls d) X.env.locals s'.heap := by
      rw [← hstk]
      exact skyE
    show wpAny (model X.prog X.w) X.A (noteFrame (.ref a) X.env) _ _ _
    refine Sky.land Zc.steady hframes hfm skyE' fun hL fL upL => ?_
    have IL : L2.Inv X pins σE HE { s' with heap := hL } := IE.landed nbE fL.1 (upE.trans upL) osE agE
    obtain ⟨oeL, vsL, heL, hzL, hdL⟩ := fL.there
    have notF : a ∉ frs (X.env :: X.outer) := fun inF => by
      obtain ⟨_, o', e', hnf⟩ := fL.2.2.1.mem inF
      rw [heL] at e'
      cases e'
      exact hnf _ hdL
    have notL : a ≠ X.env.locals := fun z => notF (List.mem_filterMap.mpr ⟨X.env, List.mem_cons_self, hfm.trans (congrArg some z.symm)⟩)
    have notO : a ∉ X.fs := fun inO => by
      obtain ⟨and_intros, hev, q⟩ := List.mem_filterMap.mp inO
      exact notF (List.mem_filterMap.mpr ⟨and_intros, List.mem_cons_of_mem _ hev, q⟩)
    have IS := IL.suite heL hdL naE notL notO
    have lookT : PySem.W.Looks (model X.prog X.w) hL (typeOf (.ref a)) cls := fun A Q E s k q => wpAny_typeOf_ref (k _ _ heL) (hzL.1.symm ▸ q)
    have testOf : ∀ {x : Str} {c : Value} {np : Pos}, Names X x c → ∀ {Q : Value → Shared → Prop} {E : Value → Shared → Prop}, Q c { s' with heap := hL } → wpAny (model X.prog X.w) (X.A.mark (some (.ref a))) (eval (.Name x np) X.env) Q E { s' with heap := hL } := fun {x c np} hc {Q E} q => by
      obtain ⟨hg, hdb, hm | ⟨hm, hv, hnn⟩⟩ := hc
      · exact ld_glob (X := X.suite a ((a, oeL) :: (X.pn ++ pins))) IS hg hm q hdb
      · exact ld_blt (X := X.suite a ((a, oeL) :: (X.pn ++ pins))) IS hg hm hv q hnn hdb
    have pass : ∀ {eh : List ExceptHandler} {ll : List Hd}, HdOk X eh ll → wHd X.K Wout D ll cls d σE HE → wpAny (model X.prog X.w) X.A (handleBy (.ref a) X.env eh) (SP X pins D) X.xe { s' with heap := hL } := by
      intro eh ll ok
      induction ok with
      | nil =>
        intro w
        refine wpAny_handleBy_nil ?_
        obtain ⟨_, _, _, oz, vz, T, oT, tz, hez, hzz, hdz, h1z, _⟩ := id fL
        unfold PySem.passOn
        refine wpAny_bind (wpAny_field hez hdz h1z ?_)
        rw [if_neg (show ¬ ((Value.ref T == Value.none) = true) from by simp)]
        have onward : wpAny (model X.prog X.w) X.A (setFlight (.ref a) X.env.frame) (fun _ s4 => wpAny (model X.prog X.w) X.A (throw (.ref a) : Sem Flow) (SP X pins D) X.xe s4) X.xe { s' with heap := hL } := by
          rw [hfm]
          refine HandSPX.setFlight_upZ fL fun h4 sky4 up4 => wpAny_throw (tko _ _ ?_)
          exact ⟨a, G, sE, pins, σE, HE, cls, d, rfl, IE, nbE, (upE.trans upL).trans up4, .inr (.inr (by rw [hstk]; exact sky4)), naE, osE, agE, w⟩
        first
          | exact wpAny_bind (wpAny_pure (wpAny_bind onward))
          | exact wpAny_bind onward
      | @plain x c ts st sts np hp eh2 l2 hc hs r ih =>
        intro w
        obtain ⟨b, hb1, yes, no⟩ := w
        refine wpAny_handleBy_cons (codeAny_handlers_test ?_) (by intro q; cases q)
        have LM := PySem.W.exm_one (M := model X.prog X.w) IL.kIn lookT hb1
        refine testOf hc (LM.here ?_)
        cases b with
        | true =>
          refine codeAny_handlers_suite ?_
          refine HandSPX.lands_againZ fL fun h4 f4 up4 => ?_
          have I4 : L2.Inv X pins σE HE { s' with heap := h4 } := IE.landed nbE f4.1 ((upE.trans upL).trans up4) osE agE
          obtain ⟨oe4, vs4, he4, hz4, hd4⟩ := f4.there
          have S4 := I4.suite he4 hd4 naE notL notO
          refine wpAny_mono ((hs a oe4 cls d (X.pn ++ pins) hz4 ⟨_, hd4⟩).run [] _ _ HE _ S4 (yes rfl a naE)) (fun fl s6 got => ?_) (fun _ _ z => False.elim z)
          cases fl with
          | next => exact let ⟨_, _, S6, q6⟩ := got; ⟨_, _, S6.unsuite ok0, q6⟩
          | brk => exact let ⟨_, _, S6, q6⟩ := got; ⟨_, _, S6.unsuite ok0, q6⟩
          | cont => exact let ⟨_, _, S6, q6⟩ := got; ⟨_, _, S6.unsuite ok0, q6⟩
          | ret u => exact let ⟨_, _, _, S6, r6, q6⟩ := got; ⟨_, _, _, S6.unsuite ok0, r6, q6⟩
        | false =>
          show wpAny _ X.A (handleBy (.ref a) X.env eh2) _ _ _
          exact ih (no rfl)
      | @named x n i c ts st sts np hp eh2 l2 hc hi hl hs r ih =>
        intro w
        obtain ⟨b, hb1, yes, no⟩ := w
        refine wpAny_handleBy_cons (codeAny_handlers_test ?_) (by intro q; cases q)
        have LM := PySem.W.exm_one (M := model X.prog X.w) IL.kIn lookT hb1
        refine testOf hc (LM.here ?_)
        cases b with
        | true =>
          refine codeAny_handlers_suite_as ?_
          refine HandSPX.lands_againZ fL fun h4 f4 up4 => ?_
          have I4 : L2.Inv X pins σE HE { s' with heap := h4 } := IE.landed nbE f4.1 ((upE.trans upL).trans up4) osE agE
          obtain ⟨oe4, vs4, he4, hz4, hd4⟩ := f4.there
          have S4 := I4.suite he4 hd4 naE notL notO
          refine store_ok (X := X.suite a ((a, oe4) :: (X.pn ++ pins))) (v := .ref a) S4 hND hi (.inl hl) rfl (fun s5 S5 => ?_) (.inr hl)
          refine wpAny_mono ((hs a oe4 cls d (X.pn ++ pins) hz4 ⟨_, hd4⟩).run [] s5 _ HE _ S5 (yes rfl a naE)) (fun fl s6 got => ?_) (fun _ _ z => False.elim z)
          have bye : ∀ {σ6 : L2.St} {H6 : Hp} {Q : Shared → Prop}, L2.Inv (X.suite a ((a, oe4) :: (X.pn ++ pins))) [] σ6 H6 s6 → (∀ s7, L2.Inv X pins (σ6.set i none) H6 s7 → Q s7) →
              wpAny (model X.prog X.w) X.A (do bindName X.env n .none; unbindBehindTheSuite X.env n hp) (fun _ s7 => Q s7) X.xe s6 := fun {_ _ _} S6 hq => gone_ok (S6.unsuite ok0) hND hi hl hq
          cases fl with
          | next => exact let ⟨_, _, S6, q6⟩ := got; bye S6 fun s7 I7 => ⟨_, _, I7, q6⟩
          | brk => exact let ⟨_, _, S6, q6⟩ := got; bye S6 fun s7 I7 => ⟨_, _, I7, q6⟩
          | cont => exact let ⟨_, _, S6, q6⟩ := got; bye S6 fun s7 I7 => ⟨_, _, I7, q6⟩
          | ret u => exact let ⟨_, _, _, S6, r6, q6⟩ := got; bye S6 fun s7 I7 => ⟨_, _, _, I7, r6, q6⟩
        | false =>
          show wpAny _ X.A (handleBy (.ref a) X.env eh2) _ _ _
          exact ih (no rfl)
    exact pass hhd wE
  · cases fl with
    | next => exact let ⟨_, _, J, q⟩ := done; wpAny_execs_nil ⟨_, _, J.ofTry ok0, q⟩
    | brk => exact let ⟨_, _, J, q⟩ := done; ⟨_, _, J.ofTry ok0, q⟩
    | cont => exact let ⟨_, _, J, q⟩ := done; ⟨_, _, J.ofTry ok0, q⟩
    | ret u => exact let ⟨_, _, _, J, r, q⟩ := done; ⟨_, _, _, J.ofTry ok0, r, q⟩
end
end VL
/-! the value layer: raising, calls that raise -/
namespace VL
open PySem
open PySem.Spec
open L2
/-- what is let out is taken: by the context's wish at the slots -/
abbrev TkX (X : Cx) (c : Ct) : Prop := Takes X (fun C d σ H => c.E σ C d H)
/-- nothing but the arguments is asked; an error may come -/
def spPX (K : PySem.W.Frag) (mg : Str → Option Value) (ks : List Kd) (kr : Kd) (F : List D → M D) : Sp := fun vs H Q E => ∃ Zs ds, (∀ z ∈ Zs, H z ≠ none) ∧ AllK K (hide Zs H) ks vs ds ∧
  Good (F ds ms0) (fun d _ => ∀ v H', Same H H' → Res K (hide Zs H') kr d v → Q v H') (fun x _ => ∀ C od H', Same H H' → ExcRep K mg (hide Zs H') x C od → E C od H')
theorem spPX_len {K : PySem.W.Frag} {mg : Str → Option Value} {ks : List Kd} {kr : Kd} {F : List D → M D} {n : Nat} (h : ks.length = n) : ∀ vs H Q E, spPX K mg ks kr F vs H Q E → vs.length = n := fun vs H Q E ⟨_, _, _, q, _⟩ => q.len.1.trans h
/-- a def of the module that may raise -/
structure FcX (P : Program) (w : World) (K : PySem.W.Frag) (mg : Str → Option Value) (base : Heap) (x : Str) (k : Nat) (f : Addr) (fd : FuncData) (ps : List Str) (ks : List Kd) (kr : Kd) (Fn : List D → M D) : Prop where
  fn : FnV P w K mg base (L2.CX P w) k f fd ps (spPX K mg ks kr Fn)
  here : mg x = some (.ref f)
  kp : PySem.W.keepIn K (.ref f) = true
  bi : Binds K fd ps []
def eCallX (Fn : List D → M D) (A : SE → M (List D)) : SE → M D := fun en => do
  let ds ← A en
  still (Fn ds)
section
variable {X : Cx} {c : Ct} {U Un UL : List Nat} {k : Nat} {f : Addr} {fd : FuncData} {ps : List Str} {x : Str} {p pos : Pos} {e : Expr} {es : List Expr} {ks : List Kd} {kr : Kd} {Fn : List D → M D} {A : SE → M (List D)}
theorem run_VS {CX : CXT} {sp : Sp} {E : L2.St → XK} {pins : List (Addr × Obj)} {σ : L2.St} {H : Hp} {s : Shared} {Q : VK} {us : List Value} {vs : List V} (F : FnV X.prog X.w X.K X.mg X.base CX k f fd ps sp) (hgd : X.A.guards = some []) (hr : Room k X.A) (hb : Binds X.K fd ps []) (hx : PassesAt CX X σ (E σ))
    (I : L2.Inv X pins σ H s) (r : Vals vs us) (h : sp vs H Q (E σ)) : wpAny (model X.prog X.w) X.A (call (.ref f) us) (EP X pins σ Q) X.xe s := by
  have hle : us.length = ps.length := r.length.symm.trans (F.lens _ _ _ _ h)
  have hbd : BindsTo s fd ⟨us, []⟩ (ps.zip us) := by
    have q := hb s us I.kIn (by rw [List.append_nil]; exact hle)
    rwa [List.append_nil] at q
  refine wpAny_call (codeAny_mono (F.runs X.A X.stack s H ⟨us, []⟩ us vs Q (E σ) hgd hr I.env0 hbd r h) fun res s' got => ?_)
  rcases res with ex | fl
  · exact hx pins H s _ s' I got
  · cases fl <;> first | exact I.after got | exact False.elim got
theorem pe_VS {CX : CXT} {sp : Sp} {E : L2.St → XK} {t : TA} (F : FnV X.prog X.w X.K X.mg X.base CX k f fd ps sp) (hgd : X.A.guards = some []) (hr : Room k X.A) (hg : Gl X x) (hm : X.mg x = some (.ref f)) (hk : PySem.W.keepIn X.K (.ref f) = true) (hb : Binds X.K fd ps []) (hx : ∀ σ, PassesAt CX X σ (E σ))
    (ha : PA X (e :: es) t) (hdb : (x == ("__debug__" : Str)) = false := by decide) (he : starEach (e :: es) X.env = (false, eval e X.env) :: starEach es X.env := by rfl) (hpl : (backTo pos (starEach es X.env)).any (·.1) = false := by rfl) :
    PE X (.Call (.Name x p) (e :: es) [] pos) (fun σ H Q => t σ H fun vs H1 => sp vs H1 Q (E σ)) := by
  refine ⟨fun pins s σ H Q I h => wpAny_Call_Name_kw (ld_glob I hg hm ?_ hdb)⟩
  exact PySem.W.callWith_K (h₀ := X.base) I.ok.mod.kin hk (thn (ha.run pos pins s σ H _ I h) fun us s1 ⟨vs, H1, I1, r, q⟩ => ⟨I1.kIn, run_VS F hgd hr hb (hx σ) I1 r q⟩) he hpl
/-- a call that may raise -/
theorem fr_fX (C : FcX X.prog X.w X.K X.mg X.base x k f fd ps ks kr Fn) (tk : TkX X c) (hgd : X.A.guards = some []) (hr : Room k X.A) (ha : FA X c U (e :: es) ks A) (hg : Gl X x := by rfl)
    (hdb : (x == ("__debug__" : Str)) = false := by decide) (he : starEach (e :: es) X.env = (false, eval e X.env) :: starEach es X.env := by rfl) (hpl : (backTo pos (starEach es X.env)).any (·.1) = false := by rfl) : FR X c U kr (.Call (.Name x p) (e :: es) [] pos) (eCallX Fn A) := by
  obtain ⟨t, pa, ra⟩ := ha
  refine ⟨_, pe_VS C.fn hgd hr hg C.here C.kp C.bi (fun σ => passAt tk σ) pa hdb he hpl, fun Z H0 O en σ H m Q hE hG => ra Z H0 O en σ H m _ hE (hG.bd.mono (fun ds m1 k1 vs H1 s1 d1 q1 => ?_) fun _ _ k => k)⟩
  have E1 := hE.step s1 d1
  exact ⟨ZO Z O, ds, E1.zt, q1, k1.still.mono (fun d m2 k2 v H2 s2 q2 => k2 v H2 (s1.trans (.of s2)) (d1.same s2) q2) fun y m2 k2 Cv od H2 s2 q2 => k2 Cv od H2 (s1.trans (.of s2)) (d1.same s2) q2⟩
/-- .. where nothing is raised -/
theorem fr_fN (C : FcX X.prog X.w X.K X.mg X.base x k f fd ps ks kr Fn) (hgd : X.A.guards = some []) (hr : Room k X.A) (ha : FA X c U (e :: es) ks A) (hg : Gl X x := by rfl)
    (hdb : (x == ("__debug__" : Str)) = false := by decide) (he : starEach (e :: es) X.env = (false, eval e X.env) :: starEach es X.env := by rfl) (hpl : (backTo pos (starEach es X.env)).any (·.1) = false := by rfl) : FR X c U kr (.Call (.Name x p) (e :: es) [] pos) (eCall Fn A) := by
  obtain ⟨t, pa, ra⟩ := ha
  refine ⟨_, pe_V C.fn hgd hr hg C.here C.kp C.bi passL pa hdb he hpl, fun Z H0 O en σ H m Q hE hG => ra Z H0 O en σ H m _ hE (hG.bd.mono (fun ds m1 k1 vs H1 s1 d1 q1 => ?_) fun _ _ k => k)⟩
  have E1 := hE.step s1 d1
  exact ⟨ZO Z O, ds, E1.zt, q1, (show Good (VL.nox (Fn ds) ms0) _ _ from k1.still).nox.mono (fun d m2 k2 v H2 s2 q2 => k2 v H2 (s1.trans (.of s2)) (d1.same s2) q2) fun _ _ k => k.elim⟩
end
/-! ### a def's body that may raise -/
section
variable {P : Program} {w : World} {K : PySem.W.Frag} {mg : Str → Option Value} {base : Heap} {x qual : Str} {st : Stmt} {f : Addr} {fd : FuncData} {N ps : List Str} {k : Nat} {ks : List Kd} {kr : Kd} {S : SE → M Ctl} {U' : List Nat} {dk : Nat → Kd}
theorem end_ofX {X : Cx} {c : Ct} {t : TS} {Zs : List Addr} {H : Hp} {O : List (Nat × Addr)} {en : SE} {σ : L2.St} {m : MS} {Q : VK} (rt : RdS X c [] [] t S U') (hE : EnvOk X.K c.W c.ms c.dk Zs H [] O en σ H m) (hkr : c.rd = .dat ∨ ∀ e m1 m2, S en m1 ≠ .ok (.nx e) m2)
    (hG : Good (runB S en m) (fun d m' => ∀ v H', SameW c.W H H' → DrawOk c.W H' m' → Res X.K (hide Zs H') c.rd d v → Q v H') (fun x m' => ∀ σ', ExK X c Zs σ' H x m')) : t { nx := fun _ H' => Q .non H', rt := Q } σ H := by
  refine rt Zs H O en σ H m _ hE ?_
  have hG := hG.bd
  revert hG
  cases q : S en m with
  | bad => exact fun h => h
  | exc x y => exact fun h => h
  | ok k m1 =>
    intro hG
    cases k with
    | nx e =>
      rcases hkr with hkr | hkr
      · intro O' σ' H' E'
        refine (show ∀ v H', SameW c.W H H' → DrawOk c.W H' m1 → Res X.K (hide Zs H') c.rd .none v → Q v H' from hG) .non H' E'.same E'.dr ?_
        rw [hkr]
        exact Dq.non
      · exact absurd q (hkr e m m1)
    | bk e => exact hG.elim
    | ct e => exact hG.elim
    | rt d => exact fun v H' s d' r => (show ∀ v H', SameW c.W H H' → DrawOk c.W H' m1 → Res X.K (hide Zs H') c.rd d v → Q v H' from hG) v H' s d' r
theorem takes_cx {N : List Str} {qual : Str} {sc : Scope} {f : Addr} {cdv : Value} {A : Around} {outer : List Env} {s : Shared} {H : Hp} {E : XK} {W : Option Wd} {ms : List Nat} {dk : Nat → Kd} {rd : Kd} : TkX (cxOf (L2.CX P w) P w K mg base N qual sc f cdv A outer s H E) ⟨W, ms, dk, rd, fun _ => E⟩ :=
  takes_of (X := cxOf (L2.CX P w) P w K mg base N qual sc f cdv A outer s H E) rfl rfl rfl rfl
theorem fn_PX (F : Fun K x qual st f fd) (Sc : FnScope N ps (defScope st)) (hks : ks.length = ps.length) (hdk : ∀ i kk, ks[i]? = some kk → dk i = kk)
    (body : ∀ (cdv : Value) (A : Around) (outer : List Env) (s : Shared) (H : Hp) (E : XK), (A.deeper (PyProof.Rows.envOfC qual (defScope st) s.heap.objs.size f cdv)).guards = some [] → Room k (A.deeper (PyProof.Rows.envOfC qual (defScope st) s.heap.objs.size f cdv)) →
      FSs (cxOf (L2.CX P w) P w K mg base N qual (defScope st) f cdv A outer s H E) ⟨none, [], dk, kr, fun _ => E⟩ [] [] (defBody st) S U') (hkr : kr = .dat ∨ ∀ en e m1 m2, S en m1 ≠ .ok (.nx e) m2) : FnV P w K mg base (L2.CX P w) (k + 1) f fd ps (spPX K mg ks kr fun ds => runB S (env0 N.length ds)) := by
  refine fnV_of F Sc (spPX_len hks) fun cdv A outer s H vs Q E hgd hr hsp => ?_
  obtain ⟨Zs, ds, hz, hA, hG⟩ := hsp
  obtain ⟨t, pt, rt⟩ := body cdv A outer s H E hgd hr
  have hl := hA.len
  refine ⟨t, pt, end_ofX rt (m := ms0) (en := env0 N.length ds) (O := []) (Zs := Zs) ⟨?_, fun i => Iff.rfl, List.nodup_nil, (fun w q => nomatch q), hz, (fun w q => nomatch q), (fun w q => nomatch q), SameW.refl _ _, (fun w q => nomatch q), List.nodup_nil, (fun p hp => nomatch hp), (fun p hp => nomatch hp), fun i d h1 _ => ?_⟩ ?_ ?_⟩
  · unfold env0 L2.start
    rw [List.length_append, List.length_append, List.length_map, List.length_map, List.length_replicate, List.length_replicate, hl.1, hl.2]
  · obtain ⟨kk, v, h2, h3, h4⟩ := hA.get (env0_get h1)
    refine ⟨v, start_get h3, ?_⟩
    show Res K (hide (ZO Zs []) H) (dk i) d v
    rw [hdk i kk h2]
    exact h4.mono (hide_sub fun b hb => by simpa [ZO] using hb)
  · rcases hkr with q | q
    · exact .inl q
    · exact .inr fun e m1 m2 => q _ e m1 m2
  · exact hG.mono (fun d m' kk v H' s' d' r => kk v H' (sameN s') r) fun y m' kk σ' Cv od H' s' d' r => kk Cv od H' (sameN s') r
end
end VL
/-! the value layer: errors with one or two fields -/
namespace VL
open PySem
open PySem.Spec
open L2
/-- what such an __init__ does -/
def spI (C : Addr) (fs : List Str) : Sp := fun vs H Q E => ∃ a ys, vs = .ref a :: ys ∧ ys.length = fs.length ∧ H a = some (exo a C none) ∧ ∀ d, H d = none → d ≠ a → ∀ H', (∀ b, b ≠ a → b ≠ d → H' b = H b) → H' a = some (exo a C (some d)) → H' d = some (exd d (fs.zip ys).reverse) → Q .non H'
theorem upd_upd_eq {H H' : Hp} {a d : Addr} {x y : HO} (hda : d ≠ a) (h1 : ∀ b, b ≠ a → b ≠ d → H' b = H b) (h2 : H' a = some x) (h3 : H' d = some y) : H' = upd (upd H d y) a x := by
  funext b
  by_cases hb : b = a
  · rw [hb, upd_same, h2]
  · rw [upd_ne hb]
    by_cases hd : b = d
    · rw [hd, upd_same, h3]
    · rw [upd_ne hd, h1 b hb hd]
section
variable {X : Cx} {C : Addr} {f g : Str} {p1 p2 p3 p4 p5 p6 p7 p8 : Pos}
/-- self.f = f -/
theorem rest1 (T : OexC X.K C) (hf : PySem.W.findIn X.K (.ref C) f = some none) (h0 : X.N[0]? = some ("self" : Str)) (h1 : X.N[1]? = some f) (v0 : Vis X.env.scope ("self" : Str)) (v1 : Vis X.env.scope f) (hd : (f == ("__debug__" : Str)) = false) (hcd : (f == ("__classdict__" : Str)) = false)
    (hs : swapsWith (.Name f p2) (some (.Attribute (.Name "self" p1) f p3)) p4.line X.env = pure false) : PSs X [.Assign [.Attribute (.Name "self" p1) f p3] (.Name f p2) p4] (tOst X.K f (tVar 0) (tVar 1)) :=
  pss_one (ps_ost (pe_var h0 v0 (by decide) (by decide)) (pe_var h1 v1 hd hcd) hs)
theorem rest2 (T : OexC X.K C) (h0 : X.N[0]? = some ("self" : Str)) (h1 : X.N[1]? = some f) (h2 : X.N[2]? = some g) (v0 : Vis X.env.scope ("self" : Str)) (v1 : Vis X.env.scope f) (v2 : Vis X.env.scope g) (hd : (f == ("__debug__" : Str)) = false) (hcd : (f == ("__classdict__" : Str)) = false) (hd2 : (g == ("__debug__" : Str)) = false) (hcd2 : (g == ("__classdict__" : Str)) = false)
    (hs : swapsWith (.Name f p2) (some (.Attribute (.Name "self" p1) f p3)) p4.line X.env = pure false) (hs2 : swapsWith (.Name g p6) (some (.Attribute (.Name "self" p5) g p7)) p8.line X.env = pure false) :
    PSs X [.Assign [.Attribute (.Name "self" p1) f p3] (.Name f p2) p4, .Assign [.Attribute (.Name "self" p5) g p7] (.Name g p6) p8] (tSeq (tOst X.K f (tVar 0) (tVar 1)) (tOst X.K g (tVar 0) (tVar 2))) :=
  pss_cons (ps_ost (pe_var h0 v0 (by decide) (by decide)) (pe_var h1 v1 hd hcd) hs) (pss_one (ps_ost (pe_var h0 v0 (by decide) (by decide)) (pe_var h2 v2 hd2 hcd2) hs2))
theorem sp1 {K : PySem.W.Frag} (T : OexC K C) (hf : PySem.W.findIn K (.ref C) f = some none) : ∀ vs H Q E, spI C [f] vs H Q E → ∃ a ys, vs = .ref a :: ys ∧ ys.length + 1 = [("self" : Str), f].length ∧ H a = some (exo a C none) ∧ tOst K f (tVar 0) (tVar 1) { nx := fun _ H' => Q .non H', rt := Q } (L2.start [("self" : Str), f] vs) H := fun vs H Q E h => by
  obtain ⟨a, ys, rfl, hl, ha, hq⟩ := h
  match ys, hl with
  | [y], _ =>
    refine ⟨a, [y], rfl, rfl, ha, ⟨y, rfl, .ref a, rfl, a, C, rfl, T, hf, .inl ⟨ha, fun dx hn hne => ?_⟩⟩⟩
    exact hq dx hn hne _ (fun b hb hd => by rw [upd_ne hb, upd_ne hd]) upd_same (by rw [upd_ne hne, upd_same]; rfl)
theorem sp2 {K : PySem.W.Frag} (T : OexC K C) (hf : PySem.W.findIn K (.ref C) f = some none) (hg : PySem.W.findIn K (.ref C) g = some none) : ∀ vs H Q E, spI C [f, g] vs H Q E → ∃ a ys, vs = .ref a :: ys ∧ ys.length + 1 = [("self" : Str), f, g].length ∧ H a = some (exo a C none) ∧
    tSeq (tOst K f (tVar 0) (tVar 1)) (tOst K g (tVar 0) (tVar 2)) { nx := fun _ H' => Q .non H', rt := Q } (L2.start [("self" : Str), f, g] vs) H := fun vs H Q E h => by
  obtain ⟨a, ys, rfl, hl, ha, hq⟩ := h
  match ys, hl with
  | [y, z], _ =>
    refine ⟨a, [y, z], rfl, rfl, ha, ⟨y, rfl, .ref a, rfl, a, C, rfl, T, hf, .inl ⟨ha, fun dx hn hne => ?_⟩⟩⟩
    refine ⟨z, rfl, .ref a, rfl, a, C, rfl, T, hg, .inr ⟨dx, [(f, y)], upd_same, by rw [upd_ne hne, upd_same], by show 1 ≤ 900; decide, ?_⟩⟩
    exact hq dx hn hne _ (fun b hb hd => by rw [upd_ne hd, upd_ne hb, upd_ne hd]) (by rw [upd_ne (Ne.symm hne), upd_same]) upd_same
end
/-- an error of the module -/
structure ErC (P : Program) (w : World) (K : PySem.W.Frag) (mg : Str → Option Value) (base : Heap) (x : Str) (C : Addr) (fs : List Str) : Prop where
  oex : OexC K C
  here : mg x = some (.ref C)
  init : ∃ fI fd, PySem.W.findIn K (.ref C) "__init__" = some (some (.ref fI)) ∧ PySem.W.typeIn K (.ref fI) = some (.type "function") ∧ FnOk P w K mg base CX0 1 fI fd (("self" : Str) :: fs) (spI C fs) ∧ Binds K fd (("self" : Str) :: fs) []
/-- raise cls(..) -/
def sRaise (cls : Str) (fs : List Str) (A : SE → M (List D)) : SE → M Ctl := fun en => do
  let ds ← A en
  M.rs ⟨cls, (fs.zip ds).reverse⟩
theorem zip_rev {α β : Type} : ∀ (a : List α) (b : List β), a.length = b.length → a.reverse.zip b.reverse = (a.zip b).reverse
  | [], [], _ => rfl
  | x :: a, y :: b, h => by
    have hl : a.length = b.length := by simpa using h
    rw [List.reverse_cons, List.reverse_cons, List.zip_append (by rw [List.length_reverse, List.length_reverse, hl]), zip_rev a b hl]
    show (a.zip b).reverse ++ [(x, y)] = ((x, y) :: a.zip b).reverse
    rw [List.reverse_cons]
  | [], _ :: _, h => by cases h
  | _ :: _, [], h => by cases h
theorem DqAll.rev {K : PySem.W.Frag} {H : Hp} : ∀ {vs : List V} {ds : List D}, DqAll K H vs ds → DqAll K H vs.reverse ds.reverse
  | _, _, .nil => .nil
  | _, _, .cons h r => by
    rw [List.reverse_cons, List.reverse_cons]
    exact DqAll.append (DqAll.rev r) (.cons h .nil)
section
variable {X : Cx} {c : Ct} {U Un UL : List Nat} {x : Str} {C : Addr} {fs : List Str} {e : Expr} {es : List Expr} {A : SE → M (List D)} {p pos pos' : Pos}
theorem fs_raise (Er : ErC X.prog X.w X.K X.mg X.base x C fs) (tk : TkX X c) (hc : X.calm = true) (hr : Room 2 X.A) (hsz : fs.length ≤ 1000) (ha : FA X c U (e :: es) (List.replicate fs.length .dat) A) (hg : Gl X x := by rfl)
    (hdb : (x == ("__debug__" : Str)) = false := by decide) (he : starEach (e :: es) X.env = (false, eval e X.env) :: starEach es X.env := by rfl) (hpl : (backTo pos (starEach es X.env)).any (·.1) = false := by rfl) :
    FS X c UL U (.Raise (some (.Call (.Name x p) (e :: es) [] pos)) none pos') (sRaise x fs A) Un := by
  obtain ⟨ta, pa, ra⟩ := ha
  obtain ⟨fI, fd, iC, tI, F1, hb⟩ := Er.init
  refine ⟨_, ps_raise hc tk (pmk_oex Er.oex iC tI F1 hr hb .nil pass0 hg Er.here pa hdb he hpl), fun Z H0 O en σ H m Ds hE hG => ra Z H0 O en σ H m _ hE (hG.bd.mono (fun ds m1 k1 vs H1 s1 d1 q1 => ?_) fun _ _ k => ExK.out hE k)⟩
  have hl := q1.len
  rw [List.length_replicate] at hl
  have q1 : DqAll X.K (hide (ZO Z O) H1) vs ds := AllK.all q1
  have k1 : ∀ σ', ExK X c Z σ' H0 ⟨x, (fs.zip ds).reverse⟩ m1 := k1
  refine ⟨by omega, fun a na => ?_⟩
  rw [List.append_nil]
  refine ⟨a, vs, rfl, hl.1, upd_same, fun d hd hda H2 h1 h2 h3 => ⟨rfl, d, _, h2, h3, ?_, ?_⟩⟩
  · rw [upd_ne hda] at hd
    exact hd
  have nd : H1 d = none := by
    rw [upd_ne hda] at hd
    exact hd
  have hf : ∀ b, b ≠ d → b ≠ a → upd (del H2 a) d (.xd (fs.zip vs).reverse) b = H1 b := fun b hb hba => by
    rw [upd_ne hb, del_ne hba, h1 b hba hb, upd_ne hba]
  have sm : Same H1 (upd (del H2 a) d (.xd (fs.zip vs).reverse)) := fun b o q => by
    have hb : b ≠ d := fun z => by rw [z, nd] at q; cases q
    have hba : b ≠ a := fun z => by rw [z, na] at q; cases q
    rw [hf b hb hba]
    exact q
  have n0 : H d = none := none_step s1 d1 nd
  have dz : d ∉ ZO Z O := fun z => hE.zt d z n0
  have sub : Same (hide (ZO Z O) H1) (hide Z (upd (del H2 a) d (.xd (fs.zip vs).reverse))) := fun b o q => by
    obtain ⟨q1, q2⟩ := hide_some q
    rw [hide_ne fun z => q1 (List.mem_append_left _ z)]
    exact sm _ _ q2
  refine k1 σ _ _ _ (hE.same.trans (s1.trans (.of sm))) (d1.same sm) ⟨C, d, vs.reverse, Er.here, rfl, rfl, ?_, ?_⟩
  · rw [hide_ne fun z => dz (List.mem_append_left _ z), upd_same]
    have e1 : ((fs.zip ds).reverse.map (·.1)) = fs.reverse := by
      rw [List.map_reverse, List.map_fst_zip (by omega)]
    show some (HO.xd _) = some (HO.xd (((fs.zip ds).reverse.map (·.1)).zip vs.reverse))
    rw [e1, zip_rev fs vs (by omega)]
  · have e2 : ((fs.zip ds).reverse.map (·.2)) = ds.reverse := by
      rw [List.map_reverse, List.map_snd_zip (by omega)]
    show DqAll X.K _ vs.reverse ((fs.zip ds).reverse.map (·.2))
    rw [e2]
    exact DqAll.rev (DqAll.mono sub q1)
end
end VL
/-! the value layer: try and its clauses -/
namespace VL
open PySem
open PySem.Spec
open L2
/-! ### what a clause says by the fields of the error -/
def FXe (X : Cx) (j : Option Nat) (e : Expr) (g : Exn → Option D) : Prop := ∀ (a : Addr) (oe : Obj) (cls : Value) (od : Option Addr) (pl : List (Addr × Obj)), Zc cls od oe → (∃ vs, oe.data = .fields vs) →
  ∃ t : TE, PE (X.suite a ((a, oe) :: pl)) e t ∧ ∀ (Zs : List Addr) (σ : L2.St) (H : Hp) (x : Exn) (d : D) (Q : VK), (∀ z ∈ Zs, H z ≠ none) → (∀ i, j = some i → σ[i]? = some (some (.ref a))) → ExcRep X.K X.mg (hide Zs H) x cls od → g x = some d →
    (∀ v H', Same H H' → Dq X.K (hide Zs H') v d → Q v H') → t σ H Q
def FXa (X : Cx) (j : Option Nat) (es : List Expr) (g : Exn → Option (List D)) : Prop := ∀ (a : Addr) (oe : Obj) (cls : Value) (od : Option Addr) (pl : List (Addr × Obj)), Zc cls od oe → (∃ vs, oe.data = .fields vs) →
  ∃ t : TA, PA (X.suite a ((a, oe) :: pl)) es t ∧ ∀ (Zs : List Addr) (σ : L2.St) (H : Hp) (x : Exn) (ds : List D) (Q : List V → Hp → Prop), (∀ z ∈ Zs, H z ≠ none) → (∀ i, j = some i → σ[i]? = some (some (.ref a))) → ExcRep X.K X.mg (hide Zs H) x cls od → g x = some ds →
    (∀ vs H', Same H H' → DqAll X.K (hide Zs H') vs ds → Q vs H') → t σ H Q
theorem hide_mono {Z : List Addr} {H H' : Hp} (s : Same H H') : Same (hide Z H) (hide Z H') := fun b o q => by
  obtain ⟨h1, h2⟩ := hide_some q
  rw [hide_ne h1]
  exact s _ _ h2
theorem same_there {H H' : Hp} (s : Same H H') {z : Addr} (h : H z ≠ none) : H' z ≠ none := by
  cases q : H z with
  | none => exact absurd q h
  | some o => rw [s _ _ q]; exact fun x => nomatch x
theorem ExcRep.mono {K : PySem.W.Frag} {mg : Str → Option Value} {H H' : Hp} {x : Exn} {C : Value} {od : Option Addr} (h : ExcRep K mg H x C od) (s : Same H H') : ExcRep K mg H' x C od := by
  obtain ⟨Ca, d, vs, h1, h2, h3, h4, h5⟩ := h
  exact ⟨Ca, d, vs, h1, h2, h3, s _ _ h4, DqAll.mono s h5⟩
section
variable {X : Cx} {j : Option Nat}
theorem fxe_k {e : Expr} {v : V} {d : D} (h : ∀ X : Cx, PE X e (tC v)) (r : ∀ K H, Dq K H v d) : FXe X j e (fun _ => some d) := fun a oe cls od pl hz hf => ⟨_, h _, fun Zs σ H x d' Q hzs hs he hg k => by
  cases hg
  exact k v H (Same.refl _) (r _ _)⟩
theorem fxe_str {x : Str} {jj pos} : FXe X j (.Constant (.str x) jj pos) (fun _ => some (.str x)) := fxe_k (fun _ => pe_str) fun _ _ => .str x
theorem fxe_int {i : Int} {jj pos} : FXe X j (.Constant (.int i) jj pos) (fun _ => some (.int i)) := fxe_k (fun _ => pe_int) fun _ _ => .int i
theorem fxe_bl {b : Bool} {jj pos} : FXe X j (.Constant (.bool b) jj pos) (fun _ => some (.bool b)) := fxe_k (fun _ => pe_bl) fun _ _ => .bl b
theorem fxe_non {jj pos} : FXe X j (.Constant .none jj pos) (fun _ => some .none) := fxe_k (fun _ => pe_non) fun _ _ => .non
theorem fxa_nil : FXa X j [] (fun _ => some []) := fun a oe cls od pl hz hf => ⟨_, pa_nil, fun Zs σ H x d' Q hzs hs he hg k => by
  cases hg
  exact k [] H (Same.refl _) .nil⟩
theorem fxa_cons {e : Expr} {es : List Expr} {g : Exn → Option D} {gs : Exn → Option (List D)} (h : FXe X j e g) (hs : FXa X j es gs) (hst : ∀ env : Env, starEach (e :: es) env = (false, eval e env) :: starEach es env := by intro _; rfl) : FXa X j (e :: es) (fun x => (g x).bind fun d => (gs x).map (d :: ·)) := fun a oe cls od pl hz hf => by
  obtain ⟨t, p, r⟩ := h a oe cls od pl hz hf
  obtain ⟨ts, ps, rs⟩ := hs a oe cls od pl hz hf
  refine ⟨_, pa_cons p ps (hst _), fun Zs σ H x ds Q hzs hsl he hg k => ?_⟩
  obtain ⟨d, h1, h2⟩ := Option.bind_eq_some_iff.mp hg
  obtain ⟨ds', h3, rfl⟩ := Option.map_eq_some_iff.mp h2
  refine r Zs σ H x d _ hzs hsl he h1 fun v H1 s1 q1 => ?_
  refine rs Zs σ H1 x ds' _ (fun z hz => same_there s1 (hzs z hz)) hsl (he.mono (hide_mono s1)) h3 fun vs H2 s2 q2 => ?_
  exact k (v :: vs) H2 (Same.trans s1 s2) (.cons (Dq.mono (hide_mono s2) q1) q2)
theorem fxe_tup {es : List Expr} {gs : Exn → Option (List D)} {kk pos} (h : FXa X j es gs) : FXe X j (.Tuple es kk pos) (fun x => (gs x).bind mkT) := fun a oe cls od pl hz hf => by
  obtain ⟨ts, ps, rs⟩ := h a oe cls od pl hz hf
  refine ⟨_, pe_tup ps, fun Zs σ H x d Q hzs hsl he hg k => ?_⟩
  obtain ⟨ds, h1, h2⟩ := Option.bind_eq_some_iff.mp hg
  refine rs Zs σ H x ds _ hzs hsl he h1 fun vs H1 s1 q1 => ?_
  unfold mkT at h2
  by_cases hc : ds.length ≤ lineN
  · rw [if_pos hc] at h2
    cases h2
    refine ⟨by rw [DqAll.length q1]; exact Nat.le_trans hc lineN_le, fun p hp => ?_⟩
    exact k _ _ (Same.trans s1 (same_new hp _)) (new_tup (fun z hz => same_there s1 (hzs z hz)) hp q1)
  · rw [if_neg hc] at h2
    cases h2
theorem lookup_rel {K : PySem.W.Frag} {H : Hp} {f : Str} {d : D} : ∀ {fs : List (Str × D)} {vs : List V}, DqAll K H vs (fs.map (·.2)) → fs.lookup f = some d → ∃ v, ((fs.map (·.1)).zip vs).lookup f = some v ∧ Dq K H v d
  | [], _, _, h => by cases h
  | (g, e) :: fs, v :: vs, hd, h => by
    cases hd with
    | cons h1 h2 =>
      rw [List.lookup_cons] at h
      show ∃ w, (((g, v) : Str × V) :: (fs.map (·.1)).zip vs).lookup f = some w ∧ _
      rw [List.lookup_cons]
      cases q : (f == g) with
      | true =>
        rw [q] at h
        cases h
        exact ⟨v, rfl, h1⟩
      | false =>
        rw [q] at h
        exact lookup_rel h2 h
  | (g, e) :: fs, [], hd, h => by cases hd
/-- e.f -/
theorem fxe_fld {i : Nat} {n y f : Str} {C : Addr} {p pos : Pos} (T : XfC X.K C) (hno : PySem.W.findIn X.K (.ref C) f = some none) (hm : X.mg n = some (.ref C)) (hN : X.N[i]? = some y) (hv : Vis X.env.scope y) (hd : (y == ("__debug__" : Str)) = false := by decide) (hcd : (y == ("__classdict__" : Str)) = false := by decide)
    (hb : attributeBase (.Name y p) f X.env (eval (.Name y p) X.env) = eval (.Name y p) X.env := by rfl) : FXe X (some i) (.Attribute (.Name y p) f pos) (fun x => if x.cls = n then x.fs.lookup f else none) := fun a oe cls od pl hz hf => by
  refine ⟨_, pe_xf T hno hz hf (pe_var hN hv hd hcd) hb, fun Zs σ H x d Q hzs hsl he hg k => ?_⟩
  have hg : (if x.cls = n then x.fs.lookup f else none) = some d := hg
  by_cases hc : x.cls = n
  · rw [if_pos hc] at hg
    obtain ⟨Ca, dd, vs, h1, h2, h3, h4, h5⟩ := he
    rw [hc, hm] at h1
    cases h1
    obtain ⟨w, hw, hq⟩ := lookup_rel h5 hg
    exact ⟨.ref a, hsl i rfl, rfl, h2, dd, _, w, h3, (hide_some h4).2, hw, k w H (Same.refl _) hq⟩
  · rw [if_neg hc] at hg
    cases hg
end
/-! ### clauses -/
/-- what a clause does -/
inductive HA where
  | set (i : Nat) (d : D)
  | ret (d : D)
/-- a clause by data: the names it takes, the slot of its name, what it does -/
structure HD where
  cs : List Str
  nm : Option Nat
  act : Exn → Option HA
def wipeO (en : SE) : Option Nat → SE
  | none => en
  | some j => en.set j none
def hRun : List HD → Exn → SE → M Ctl
  | [], x, _ => M.rs x
  | h :: r, x, en => if x.cls ∈ h.cs then (match h.act x with
    | some (.set i d) => pure (.nx ((wipeO en h.nm).set i (some d)))
    | some (.ret d) => pure (.rt d)
    | none => M.no) else hRun r x en
/-- try, with clauses; errs: the errors that are told apart -/
def sTry (errs : List Str) (hs : List HD) (S : SE → M Ctl) : SE → M Ctl := fun en m => match S en m with
  | .ok k m' => .ok k m'
  | .exc x m' => if x.cls ∈ errs then hRun hs x en m' else .bad
  | .bad => .bad
/-! ### the suites -/
def tAll (X : Cx) (sts : List Stmt) (a : Addr) (cls : Value) (d : Option Addr) : TS := fun D σ H => ∀ (oe : Obj) (pl : List (Addr × Obj)), Zc cls d oe → (∃ vs, oe.data = .fields vs) → ∃ t, PSs (X.suite a ((a, oe) :: pl)) sts t ∧ t D σ H
theorem tAll_ok {X : Cx} {sts : List Stmt} (a : Addr) (oe : Obj) (cls : Value) (d : Option Addr) (pl : List (Addr × Obj)) (hz : Zc cls d oe) (hf : ∃ vs, oe.data = .fields vs) : PSs (X.suite a ((a, oe) :: pl)) sts (tAll X sts a cls d) :=
  ⟨fun pins s σ H D I h => let ⟨t, p, q⟩ := h oe pl hz hf; p.run pins s σ H D I q⟩
/-- what a suite does with a caught error -/
def SuOk (X : Cx) (c : Ct) (UL U : List Nat) (j : Option Nat) (sts : List Stmt) (act : Exn → Option HA) : Prop :=
  ∀ (a : Addr) (oe : Obj) (cls : Value) (od : Option Addr) (pl : List (Addr × Obj)), Zc cls od oe → (∃ vs, oe.data = .fields vs) → ∃ t, PSs (X.suite a ((a, oe) :: pl)) sts t ∧
    ∀ Z H0 O en σ H m x (Ds : Ends) ha, EnvOk X.K c.W c.ms c.dk Z H0 U O en σ H m → (∀ i, j = some i → σ[i]? = some (some (.ref a))) → ExcRep X.K X.mg (hide (ZO Z O) H) x cls od → act x = some ha →
      (match ha with
        | .set i d => ∀ v H', Same H H' → Dq X.K (hide (ZO Z O) H') v d → Ds.nx (σ.set i (some v)) H'
        | .ret d => ∀ v H', Same H H' → Dq X.K (hide (ZO Z O) H') v d → Ds.rt v H') → t Ds σ H
theorem su_set {X : Cx} {c : Ct} {UL U : List Nat} {j : Option Nat} (i : Nat) {y : Str} {e : Expr} {g : Exn → Option D} {p pos : Pos} (h : FXe X j e g) (hN : X.N.Nodup) (hi : X.N[i]? = some y := by rfl) (hx : Loc X.env.scope y := by first | exact Or.inl rfl | exact Or.inr rfl)
    (hs : swapsWith e (some (.Name y p)) pos.line X.env = pure false := by rfl) (hf : X.fn y = true ∨ X.env.scope.names.lookup y = some .local := by first | exact .inl rfl | exact .inr rfl) : SuOk X c UL U j [.Assign [.Name y p] e pos] (fun x => (g x).map (.set i)) := fun a oe cls od pl hz hfl => by
  obtain ⟨t, pe, r⟩ := h a oe cls od pl hz hfl
  refine ⟨_, pss_one (ps_set (X := X.suite a ((a, oe) :: pl)) hN hi hx pe hs hf), fun Z H0 O en σ H m x Ds ha hE hj he hact k => ?_⟩
  obtain ⟨d, hd, rfl⟩ := Option.map_eq_some_iff.mp hact
  exact r (ZO Z O) σ H x d _ hE.zt hj he hd fun v H1 s1 q1 => k v H1 s1 q1
theorem su_ret {X : Cx} {c : Ct} {UL U : List Nat} {j : Option Nat} {e : Expr} {g : Exn → Option D} {pos : Pos} (h : FXe X j e g) : SuOk X c UL U j [.Return (some e) pos] (fun x => (g x).map .ret) := fun a oe cls od pl hz hfl => by
  obtain ⟨t, pe, r⟩ := h a oe cls od pl hz hfl
  refine ⟨_, pss_one (ps_ret pe), fun Z H0 O en σ H m x Ds ha hE hj he hact k => ?_⟩
  obtain ⟨d, hd, rfl⟩ := Option.map_eq_some_iff.mp hact
  exact r (ZO Z O) σ H x d _ hE.zt hj he hd fun v H1 s1 q1 => k v H1 s1 q1
/-- the clauses' classes tell the errors apart -/
def Tells (K : PySem.W.Frag) (mg : Str → Option Value) (errs : List Str) (cv : Value) (cs : List Str) : Prop := ∀ y ∈ errs, ∀ Ca, mg y = some (.ref Ca) → PySem.W.exmOne K (.ref Ca) cv = some (decide (y ∈ cs))
inductive HOk (X : Cx) (c : Ct) (UL U : List Nat) (errs : List Str) : List ExceptHandler → List HD → Prop
  | nil : HOk X c UL U errs [] []
  | plain {x : Str} {cv : Value} {st : Stmt} {sts : List Stmt} {np hp : Pos} {eh : List ExceptHandler} {hs : List HD} {cs : List Str} {act : Exn → Option HA} (hc : Names X x cv) (ht : Tells X.K X.mg errs cv cs) (hsu : SuOk X c UL U none (st :: sts) act)
      (hset : ∀ x i d, act x = some (.set i d) → i ∉ U ∧ i ∉ c.ms ∧ c.dk i = .dat) (hret : ∀ x d, act x = some (.ret d) → c.rd = .dat) (r : HOk X c UL U errs eh hs) : HOk X c UL U errs (.ExceptHandler (some (.Name x np)) none (st :: sts) hp :: eh) (⟨cs, none, act⟩ :: hs)
  | named {x n : Str} {j : Nat} {cv : Value} {st : Stmt} {sts : List Stmt} {np hp : Pos} {eh : List ExceptHandler} {hs : List HD} {cs : List Str} {act : Exn → Option HA} (hc : Names X x cv) (hj : X.N[j]? = some n) (hl : X.env.kindOf n = some .local) (hjU : j ∉ U) (hjm : j ∉ c.ms) (ht : Tells X.K X.mg errs cv cs) (hsu : SuOk X c UL U (some j) (st :: sts) act)
      (hset : ∀ x i d, act x = some (.set i d) → i ≠ j ∧ i ∉ U ∧ i ∉ c.ms ∧ c.dk i = .dat) (hret : ∀ x d, act x = some (.ret d) → c.rd = .dat) (r : HOk X c UL U errs eh hs) : HOk X c UL U errs (.ExceptHandler (some (.Name x np)) (some n) (st :: sts) hp :: eh) (⟨cs, some j, act⟩ :: hs)
theorem HOk.ok {X : Cx} {c : Ct} {UL U : List Nat} {errs : List Str} {eh : List ExceptHandler} {hs : List HD} (h : HOk X c UL U errs eh hs) : ∃ l : List Hd, HdOk X eh l ∧
    ∀ Z H0 O en σ H m x cls od (Ds : Ends), EnvOk X.K c.W c.ms c.dk Z H0 U O en σ H m → ExcRep X.K X.mg (hide (ZO Z O) H) x cls od → x.cls ∈ errs → σ.length = X.N.length →
      Good (hRun hs x en m) (fun k m' => KOk X c Z H0 UL U Ds m' k) (fun x m' => ∀ σ', ExK X c Z σ' H0 x m') → wHd X.K (fun C d σ H => c.E σ C d H) Ds l cls od σ H := by
  induction h with
  | nil =>
    refine ⟨[], .nil, fun Z H0 O en σ H m x cls od Ds hE he _ _ hG => ?_⟩
    have hG : ∀ σ', ExK X c Z σ' H0 x m := hG
    exact hG σ cls od H hE.same hE.dr (he.mono (hide_sub fun b hb => List.mem_append_left _ hb))
  | @plain x0 cv st sts np hp eh hs cs act hc ht hsu hset hret r ih =>
    obtain ⟨l, hl, hw⟩ := ih
    refine ⟨⟨cv, none, tAll X (st :: sts)⟩ :: l, .plain hc tAll_ok hl, fun Z H0 O en σ H m x cls od Ds hE he hx hlen hG => ?_⟩
    obtain ⟨Ca, d0, vs0, g1, g2, g3, g4, g5⟩ := id he
    refine ⟨decide (x.cls ∈ cs), by rw [g2]; exact ht x.cls hx Ca g1, fun yes a na => ?_, fun no => ?_⟩
    · have hin : x.cls ∈ cs := of_decide_eq_true yes
      have hG : Good ((if x.cls ∈ cs then (match act x with | some (.set i d) => pure (.nx (en.set i (some d))) | some (.ret d) => pure (.rt d) | none => M.no) else hRun hs x en : M Ctl) m) _ _ := hG
      rw [if_pos hin] at hG
      intro oe pl hz hfl
      obtain ⟨t, pt, rt⟩ := hsu a oe cls od pl hz hfl
      refine ⟨t, pt, ?_⟩
      cases q : act x with
      | none => rw [q] at hG; exact hG.elim
      | some ha =>
        rw [q] at hG
        refine rt Z H0 O en σ H m x Ds ha hE (fun i hi => nomatch hi) he q ?_
        cases ha with
        | set i d =>
          obtain ⟨u1, u2, u3⟩ := hset x i d q
          have hG : ∀ O' σ' H', EnvOk X.K c.W c.ms c.dk Z H0 U O' (en.set i (some d)) σ' H' m → Ds.nx σ' H' := hG
          intro v H' s' q'
          exact hG O _ H' ((hE.step (.of s') (hE.dr.same s')).put' u1 u2 (by rw [u3]; exact q'))
        | ret d =>
          have hG : ∀ v H', SameW c.W H0 H' → DrawOk c.W H' m → Res X.K (hide Z H') c.rd d v → Ds.rt v H' := hG
          intro v H' s' q'
          refine hG v H' (hE.same.trans (.of s')) (hE.dr.same s') ?_
          rw [hret x d q]
          exact Dq.mono (hide_sub fun b hb => List.mem_append_left _ hb) q'
    · have hnot : x.cls ∉ cs := of_decide_eq_false no
      have hG : Good ((if x.cls ∈ cs then (match act x with | some (.set i d) => pure (.nx (en.set i (some d))) | some (.ret d) => pure (.rt d) | none => M.no) else hRun hs x en : M Ctl) m) _ _ := hG
      rw [if_neg hnot] at hG
      exact hw Z H0 O en σ H m x cls od Ds hE he hx hlen hG
  | @named x0 n j cv st sts np hp eh hs cs act hc hj hl0 hjU hjm ht hsu hset hret r ih =>
    obtain ⟨l, hl, hw⟩ := ih
    refine ⟨⟨cv, some j, tAll X (st :: sts)⟩ :: l, .named hc hj hl0 tAll_ok hl, fun Z H0 O en σ H m x cls od Ds hE he hx hlen hG => ?_⟩
    obtain ⟨Ca, d0, vs0, g1, g2, g3, g4, g5⟩ := id he
    refine ⟨decide (x.cls ∈ cs), by rw [g2]; exact ht x.cls hx Ca g1, fun yes a na => ?_, fun no => ?_⟩
    · have hin : x.cls ∈ cs := of_decide_eq_true yes
      have hG : Good ((if x.cls ∈ cs then (match act x with | some (.set i d) => pure (.nx ((en.set j none).set i (some d))) | some (.ret d) => pure (.rt d) | none => M.no) else hRun hs x en : M Ctl) m) _ _ := hG
      rw [if_pos hin] at hG
      intro oe pl hz hfl
      obtain ⟨t, pt, rt⟩ := hsu a oe cls od pl hz hfl
      refine ⟨t, pt, ?_⟩
      have hjl : j < σ.length := by rw [hlen]; exact (List.getElem?_eq_some_iff.mp hj).1
      have E1 : EnvOk X.K c.W c.ms c.dk Z H0 U O (en.set j none) (σ.set j none) H m := hE.wiped (vs := [j]) (fun i hi => by rw [List.mem_singleton.mp hi]; exact hjU) (fun i hi => by rw [List.mem_singleton.mp hi]; exact hjm)
      have E2 : EnvOk X.K c.W c.ms c.dk Z H0 U O (en.set j none) (σ.set j (some (.ref a))) H m := by
        refine ⟨by rw [List.length_set, List.length_set]; exact hE.len, E1.us, E1.und, E1.wz, E1.zt0, E1.w0, E1.dr, E1.same, fun w q i hi => ?_, E1.nds, E1.nz, fun p hp => ?_, fun i d h1 h2 => ?_⟩
        · have ne : j ≠ i := fun z => hjm (z ▸ hi)
          rw [List.getElem?_set_ne ne]
          exact hE.dm w q i hi
        · obtain ⟨n', d, o, h1, h2, h3, h4, h5⟩ := E1.own p hp
          have ne : j ≠ p.1 := fun z => by
            have : p.1 ∈ U := (hE.us p.1).mp (List.mem_map_of_mem hp)
            exact hjU (z ▸ this)
          rw [List.getElem?_set_ne ne] at h2
          exact ⟨n', d, o, h1, by rw [List.getElem?_set_ne ne]; exact h2, h3, h4, h5⟩
        · have ne : j ≠ i := fun z => by
            subst z
            rw [List.getElem?_set_self (by rw [hE.len]; exact hjl)] at h1
            cases h1
          obtain ⟨v, g1', g2'⟩ := E1.rep i d h1 h2
          rw [List.getElem?_set_ne ne] at g1'
          exact ⟨v, by rw [List.getElem?_set_ne ne]; exact g1', g2'⟩
      cases q : act x with
      | none => rw [q] at hG; exact hG.elim
      | some ha =>
        rw [q] at hG
        refine rt Z H0 O _ (σ.set j (some (.ref a))) H m x (forget j Ds) ha E2 (fun i hi => by cases hi; exact List.getElem?_set_self hjl) he q ?_
        cases ha with
        | set i d =>
          obtain ⟨u0, u1, u2, u3⟩ := hset x i d q
          have hG : ∀ O' σ' H', EnvOk X.K c.W c.ms c.dk Z H0 U O' ((en.set j none).set i (some d)) σ' H' m → Ds.nx σ' H' := hG
          intro v H' s' q'
          show Ds.nx (((σ.set j (some (.ref a))).set i (some v)).set j none) H'
          rw [List.set_comm _ _ u0, List.set_set]
          exact hG O _ H' ((E1.step (.of s') (hE.dr.same s')).put' u1 u2 (by rw [u3]; exact q'))
        | ret d =>
          have hG : ∀ v H', SameW c.W H0 H' → DrawOk c.W H' m → Res X.K (hide Z H') c.rd d v → Ds.rt v H' := hG
          intro v H' s' q'
          refine hG v H' (hE.same.trans (.of s')) (hE.dr.same s') ?_
          rw [hret x d q]
          exact Dq.mono (hide_sub fun b hb => List.mem_append_left _ hb) q'
    · have hnot : x.cls ∉ cs := of_decide_eq_false no
      have hG : Good ((if x.cls ∈ cs then (match act x with | some (.set i d) => pure (.nx ((en.set j none).set i (some d))) | some (.ret d) => pure (.rt d) | none => M.no) else hRun hs x en : M Ctl) m) _ _ := hG
      rw [if_neg hnot] at hG
      exact hw Z H0 O en σ H m x cls od Ds hE he hx hlen hG
end VL
/-! the value layer: a try whose body is one statement -/
namespace VL
open PySem
open PySem.Spec
open L2
/-- a statement that raises, if at all, before it changes a slot -/
def FS1 (X : Cx) (c : Ct) (UL U : List Nat) (st : Stmt) (S : SE → M Ctl) (Un : List Nat) : Prop := ∃ t : TS, PS X st t ∧
  ∀ Z H0 O en σ H m Ds, EnvOk X.K c.W c.ms c.dk Z H0 U O en σ H m → Good (S en m) (fun k m' => KOk X c Z H0 UL Un Ds m' k) (fun x m' => ExK X c (ZO Z O) σ H x m') → t Ds σ H
section
variable {X : Cx} {c : Ct} {U Un UL : List Nat}
theorem fs1_set (i : Nat) {k : Kd} {x : Str} {e : Expr} {F : SE → M D} {pos pos' : Pos} (h : FR X c U k e F) (hN : X.N.Nodup) (hk : c.dk i = k := by rfl) (hU : i ∉ U := by decide) (hm : i ∉ c.ms := by (try dsimp only); decide) (hi : X.N[i]? = some x := by rfl)
    (hx : Loc X.env.scope x := by first | exact Or.inl rfl | exact Or.inr rfl) (hs : swapsWith e (some (.Name x pos')) pos.line X.env = pure false := by rfl) (hf : X.fn x = true ∨ X.env.scope.names.lookup x = some .local := by first | exact .inl rfl | exact .inr rfl) :
    FS1 X c UL U (.Assign [.Name x pos'] e pos) (sSet i F) U := by
  obtain ⟨t, p, r⟩ := h
  refine ⟨_, ps_set hN hi hx p hs hf, fun Z H0 O en σ H m Ds hE hG => r Z H0 O en σ H m _ hE (hG.bd.mono (fun d m1 k1 v H1 s1 d1 q1 => ?_) fun _ _ k => k)⟩
  subst hk
  exact k1 O _ H1 ((hE.step s1 d1).put' hU hm q1)
theorem fs1_ret {k : Kd} {e : Expr} {F : SE → M D} {pos : Pos} (h : FR X c U k e F) (hr : c.rd = k := by rfl) : FS1 X c UL U (.Return (some e) pos) (sRet F) Un := by
  obtain ⟨t, p, r⟩ := h
  refine ⟨_, ps_ret p, fun Z H0 O en σ H m Ds hE hG => r Z H0 O en σ H m _ hE (hG.bd.mono (fun d m1 k1 v H1 s1 d1 q1 => ?_) fun _ _ k => k)⟩
  refine k1 v H1 (hE.same.trans s1) d1 ?_
  rw [hr]
  exact q1.mono (hide_sub fun b hb => List.mem_append_left _ hb)
theorem fs1_drop {k : Kd} {e : Expr} {F : SE → M D} {pos : Pos} (h : FR X c U k e F) (hs : swapsWith e none pos.line X.env = pure false := by rfl) : FS1 X c UL U (.Expr e pos) (sDrop F) U := by
  obtain ⟨t, p, r⟩ := h
  exact ⟨_, ps_expr p hs, fun Z H0 O en σ H m Ds hE hG => r Z H0 O en σ H m _ hE (hG.bd.mono (fun d m1 k1 v H1 s1 d1 q1 => k1 O σ H1 (hE.step s1 d1)) fun _ _ k => k)⟩
/-- a choice -/
theorem fs1_if {e : Expr} {s1 s2 : Stmt} {T : SE → M Bool} {F G : SE → M Ctl} {pos : Pos} (ht : FT X c U e T) (h1 : FS1 X c UL U s1 F Un) (h2 : FS1 X c UL U s2 G Un) : FS1 X c UL U (.If e [s1] [s2] pos) (sIf T F G) Un := by
  obtain ⟨tt, pt, rt⟩ := ht
  obtain ⟨t1, p1, r1⟩ := h1
  obtain ⟨t2, p2, r2⟩ := h2
  refine ⟨_, ps_if pt (pss_one p1) (pss_one p2), fun Z H0 O en σ H m Ds hE hG => rt Z H0 O en σ H m _ hE (hG.bd.mono (fun bo m1 k1 H1 sm d1 => ?_) fun _ _ k => k)⟩
  cases bo with
  | true => exact r1 Z H0 O en σ H1 m1 Ds (hE.step sm d1) (Good.mono k1 (fun _ _ k => k) fun _ _ k => ExK.step k sm)
  | false => exact r2 Z H0 O en σ H1 m1 Ds (hE.step sm d1) (Good.mono k1 (fun _ _ k => k) fun _ _ k => ExK.step k sm)
/-- try: st, with clauses -/
theorem fs_tryX {errs : List Str} {hs : List HD} {st : Stmt} {S : SE → M Ctl} {e0 : ExceptHandler} {er : List ExceptHandler} {pos : Pos} (hstk : X.stack = X.env :: X.outer) (hfm : X.env.frame = some X.env.locals) (hND : X.N.Nodup) (tk : TkX X c)
    (hb : ∀ (pl : List (Addr × Obj)) (xe : Value → Shared → Prop) (E : L2.St → XK), TkX (X.tr pl xe) ⟨c.W, c.ms, c.dk, c.rd, E⟩ → FS1 (X.tr pl xe) ⟨c.W, c.ms, c.dk, c.rd, E⟩ UL U st S U) (hh : HOk X c UL U errs (e0 :: er) hs) :
    FS X c UL U (.Try [st] (e0 :: er) [] [] pos) (sTry errs hs S) U := by
  obtain ⟨l, hl, hw⟩ := hh.ok
  let tb : WX → TS := fun W D σ H => ∀ (pl : List (Addr × Obj)) (xe : Value → Shared → Prop), Takes (X.tr pl xe) W → ∃ t, PSs (X.tr pl xe) [st] t ∧ t D σ H
  have hp := ps_tryN (pos := pos) (tb := tb) hstk hfm hND tk (fun W pl xe tkW _ => ⟨fun pins s σ H D I h => let ⟨t, p, q⟩ := h pl xe tkW; p.run pins s σ H D I q⟩) hl
  refine ⟨fun D σ H => σ.length = X.N.length → tb (wHd X.K (fun C d σ H => c.E σ C d H) D l) D σ H, ⟨fun pins s σ H D I h => hp.run pins s σ H D I (h I.len)⟩, fun Z H0 O en σ H m Ds hE hG hlen pl xe tkW => ?_⟩
  obtain ⟨t, pt, rt⟩ := hb pl xe (fun σ C d H => wHd X.K (fun C d σ H => c.E σ C d H) Ds l C d σ H) tkW
  refine ⟨t, pss_one pt, rt Z H0 O en σ H m Ds hE ?_⟩
  have hG : Good (match S en m with | .ok k m' => Out.ok k m' | .exc x m' => if x.cls ∈ errs then hRun hs x en m' else .bad | .bad => .bad) _ _ := hG
  revert hG
  cases S en m with
  | bad => exact fun h => h
  | ok k m1 =>
    intro h
    cases k with
    | nx e => exact h
    | bk e => exact h
    | ct e => exact h
    | rt d => exact h
  | exc x m1 =>
    intro h
    have h : Good (if x.cls ∈ errs then hRun hs x en m1 else .bad) _ _ := h
    by_cases hx : x.cls ∈ errs
    · rw [if_pos hx] at h
      exact fun Cv od H' s' d' r => hw Z H0 O en σ H' m1 x Cv od Ds (hE.step s' d') r hx hlen h
    · rw [if_neg hx] at h
      exact h.elim
end
end VL
/-! the value layer: while, functions as values, len(set(..)) -/
namespace VL
open PySem
open PySem.Spec
open L2
section
variable {X : Cx} {c : Ct} {U Un UL : List Nat}
/-- an empty dict as data -/
theorem fe_dic0 {pos} : FE X c U (.Dict [] [] pos) (eC (.dict [])) := by
  obtain ⟨t, p, r⟩ := (fo_dicK : FO X c U .dic (.Dict [] [] pos) (eC (.dict [])))
  refine ⟨t, p, fun Z H0 O en σ H m Q hE hG => r Z H0 O en σ H m Q hE ?_⟩
  have hG : ∀ v H', SameW c.W H H' → DrawOk c.W H' m → Dq X.K (hide (ZO Z O) H') v (.dict []) → Q v H' := hG
  show ∀ a o H', SameW c.W H H' → DrawOk c.W H' m → H a = none → H' a = some o → OwnR X.K (hide (a :: ZO Z O) H') (.dict []) o → kO o = .dic → Q (.ref a) H'
  intro a o H' s d n h ro hk
  have na : a ∉ ZO Z O := fun z => hE.zt a z n
  have ho : o = .dK [] := by
    cases ro with
    | dic kvs o h =>
      generalize e : ([] : List (D × D)) = kk at h
      cases h with
      | k ks vs ds h hl =>
        cases ks with
        | nil => cases vs with
          | nil => rfl
          | cons _ _ => cases hl
        | cons kx ks =>
          cases vs with
          | nil => cases hl
          | cons v vs =>
            cases ds with
            | nil => have := DqAll.length h; cases this
            | cons d ds => cases e
      | t ks vs ds h hl => cases hk
  subst ho
  exact hG _ _ s d (.emp (by rw [hide_ne na]; exact h))
/-- the name of a def as data -/
def fnD (x : Str) : D := .dict [(.none, .str x)]
theorem fe_fn {x : Str} {f : Addr} {pos : Pos} (hm : X.mg x = some (.ref f)) (hn : PySem.W.nsIn X.K mainGlobals x = some (some (.ref f))) (hg : Gl X x := by rfl) (hd : (x == ("__debug__" : Str)) = false := by decide) : FE X c U (.Name x pos) (eC (fnD x)) :=
  fe_k (pe_glob (v := .ref f) hg hm rfl hd) fun _ => .fn hn
/-- a call of a def that a local holds -/
def tabD (tab : List (Str × (List D → M D))) : D → Option (List D → M D)
  | .dict [(.none, .str n)] => tab.lookup n
  | _ => none
def eCallV (tab : List (Str × (List D → M D))) (i : Nat) (A : SE → M (List D)) : SE → M D := fun en => do
  let d ← eVar i en
  let Fn ← lft (tabD tab d)
  let ds ← A en
  still (Fn ds)
theorem tabD_some {tab : List (Str × (List D → M D))} {d : D} {Fn : List D → M D} (h : tabD tab d = some Fn) : ∃ n, d = fnD n ∧ tab.lookup n = some Fn := by
  unfold tabD at h
  split at h
  · exact ⟨_, rfl, h⟩
  · cases h
/-- the defs of a table -/
structure FnT (P : Program) (w : World) (K : PySem.W.Frag) (mg : Str → Option Value) (base : Heap) (k : Nat) (ks : List Kd) (kr : Kd) (n : Str) (Fn : List D → M D) : Prop where
  ex : ∃ f fd ps, FcX P w K mg base n k f fd ps ks kr Fn ∧ PySem.W.nsIn K mainGlobals n = some (some (.ref f))
theorem fr_callV (i : Nat) {k : Nat} {ks : List Kd} {kr : Kd} {x : Str} {p pos : Pos} {e : Expr} {es : List Expr} {A : SE → M (List D)} {tab : List (Str × (List D → M D))} (C : ∀ n Fn, tab.lookup n = some Fn → FnT X.prog X.w X.K X.mg X.base k ks kr n Fn) (tk : TkX X c) (hgd : X.A.guards = some []) (hr : Room k X.A) (ha : FA X c U (e :: es) ks A)
    (hU : i ∉ U := by decide) (hk : c.dk i = .dat := by rfl) (hN : X.N[i]? = some x := by rfl) (hv : Vis X.env.scope x := by first | exact Or.inl rfl | exact Or.inr (Or.inl rfl) | exact Or.inr (Or.inr rfl)) (hd : (x == ("__debug__" : Str)) = false := by decide) (hcd : (x == ("__classdict__" : Str)) = false := by decide)
    (he : starEach (e :: es) X.env = (false, eval e X.env) :: starEach es X.env := by rfl) (hpl : (backTo pos (starEach es X.env)).any (·.1) = false := by rfl) : FR X c U kr (.Call (.Name x p) (e :: es) [] pos) (eCallV tab i A) := by
  obtain ⟨t, pa, ra⟩ := ha
  let rd : TE := fun σ H Q => ∃ (f : Addr) (fd : FuncData) (ps : List Str) (sp : Sp), σ[i]? = some (some (V.ref f)) ∧ FnV X.prog X.w X.K X.mg X.base (L2.CX X.prog X.w) k f fd ps sp ∧ PySem.W.keepIn X.K (.ref f) = true ∧ Binds X.K fd ps [] ∧ t σ H fun vs H1 => sp vs H1 Q (WE (fun C d σ H => c.E σ C d H) σ)
  refine ⟨rd, ⟨fun pins s σ H Q I h => ?_⟩, fun Z H0 O en σ H m Q hE hG => ?_⟩
  · obtain ⟨f, fd, ps, sp, hs, F, kp, hb, ht⟩ := h
    refine wpAny_Call_Name_kw (thn ((pe_var (pos := p) hN hv hd hcd).run pins s σ H (fun v H1 => v = .ref f ∧ H1 = H) I ⟨.ref f, hs, rfl, rfl⟩) fun u s1 ⟨v, H1, I1, r1, q1⟩ => ?_)
    obtain ⟨rfl, e1⟩ := q1
    subst e1
    cases r1
    exact PySem.W.callWith_K (h₀ := X.base) I.ok.mod.kin kp (thn (pa.run pos pins s1 σ _ _ I1 ht) fun us s2 ⟨vs, H2, I2, r, q⟩ => ⟨I2.kIn, run_VS (E := WE (fun C d σ H => c.E σ C d H)) F hgd hr hb (passAt tk σ) I2 r q⟩) he hpl
  · obtain ⟨d, hd1, hG2⟩ := eVar_good (Good.bd hG)
    obtain ⟨v, h1, h2⟩ := hE.rep i d hd1 hU
    rw [hk] at h2
    have h2 : Dq X.K (hide (ZO Z O) H) v d := h2
    obtain ⟨Fn, hF, hG3⟩ := Good.lft (Good.bd hG2)
    obtain ⟨n, rfl, hl⟩ := tabD_some hF
    obtain ⟨f, fd, ps, CF, hn⟩ := (C n Fn hl).ex
    cases h2 with
    | fn hns =>
      rw [hn] at hns
      cases hns
      refine ⟨f, fd, ps, _, h1, CF.fn, CF.kp, CF.bi, ra Z H0 O en σ H m _ hE ((Good.bd hG3).mono (fun ds m1 k1 vs H1 s1 d1 q1 => ?_) fun _ _ k => k)⟩
      have E1 := hE.step s1 d1
      exact ⟨ZO Z O, ds, E1.zt, q1, k1.still.mono (fun d m2 k2 v H2 s2 q2 => k2 v H2 (s1.trans (.of s2)) (d1.same s2) q2) fun y m2 k2 Cv od H2 s2 q2 => k2 Cv od H2 (s1.trans (.of s2)) (d1.same s2) q2⟩
/-! ### len(set(..)) -/
def setLen (ns : List Int) : Nat := (PyProof.Rows.firstMet (fun i => ns.getD i 0) ns.length).length
def lenSetD (d : D) : Option D := (lstD d).bind fun xs => (intsD xs).bind fun ns => if ns.length ≤ 4000 then some (.int (setLen ns : Nat)) else none
def tLenSetX (K : PySem.W.Frag) (ta : TE) : TE := fun σ H Q => ta σ H fun x H1 => ∃ (l : Addr) (ns : List Int), x = .ref l ∧ SqL K H1 l (ns.map V.int) ∧ ns.length ≤ 4000 ∧ Q (.int (setLen ns : Nat)) H1
theorem intsAreV : ∀ {ns : List Int} {us : List Value}, Vals (ns.map V.int) us → PyProof.Rows.IntsAre us ns
  | [], _, .nil => .nil
  | n :: ns, _, .cons r t => by
    obtain ⟨k, rfl⟩ := r
    exact .cons n k (intsAreV t)
theorem pe_lenSetX {a : Expr} {ta : TE} {p p2 q pos : Pos} (hg : Gl X "len") (hm : X.mg "len" = none) (hg2 : Gl X "set") (hm2 : X.mg "set" = none) (ha : PE X a ta) (hc : X.calm = true)
    (na : starEach [a] X.env = (false, eval a X.env) :: starEach [] X.env := by rfl) : PE X (.Call (.Name "len" p) [.Call (.Name "set" p2) [a] [] q] [] pos) (tLenSetX X.K ta) := by
  refine ⟨fun pins s σ H Q I h => ?_⟩
  refine PyProof.Rows.Call_ (ld_blt I hg hm (show bootBuiltins "len" = some (.builtin "len") by decide +kernel) ?_)
  refine PyProof.Rows.callWith_builtin1 (PyProof.Rows.args_cons ?_ rfl) rfl rfl
  refine PyProof.Rows.Call_ (ld_blt I hg2 hm2 (show bootBuiltins "set" = some (.type "set") by decide +kernel) ?_)
  refine PyProof.Rows.callWith_type1 (PyProof.Rows.args_cons (thn (ha.run pins s σ H _ I h) fun v s1 ⟨x, H1, I1, r1, q1⟩ => PyProof.Rows.args_nil ?_) na) na rfl
  obtain ⟨l, ns, rfl, hq, hl, fin⟩ := q1
  cases r1
  obtain ⟨its, rv, pl, hz⟩ := I1.list hq
  have sz : its.toArray.size = ns.length := by rw [List.size_toArray, ← rv.length, List.length_map]
  refine call_set_list (I1.ok.hd hc) pl.isList (by simpa using intsAreV rv) (by rw [sz]; unfold scanBound; omega) fun h' tk hS hk => ?_
  refine PyProof.Rows.args_nil ?_
  rw [sz] at hS
  obtain ⟨o, es, ep, t, ho, hex, hd, _, _, _, hf, hn⟩ := hS
  have I2 : L2.Inv X pins σ H1 { s1 with heap := h', toks := tk } := I1.kept fun b o e => hk b o (Heap.lt_size e) e
  have hle := PyProof.Rows.firstMet_length_le (fun i => ns.getD i 0) ns.length
  exact call_len_set ho hex hd hf (by rw [hn]; omega) ⟨.int (setLen ns : Nat), H1, I2.tok _, ⟨_, by rw [hn]; rfl⟩, fin⟩
theorem fe_lenSet {a : Expr} {F : SE → M D} {p p2 q pos : Pos} (hm : X.mg "len" = none) (hm2 : X.mg "set" = none) (h : FE X c U a F) (hc : X.calm = true := by rfl) (hg : Gl X "len" := by rfl) (hg2 : Gl X "set" := by rfl)
    (na : starEach [a] X.env = (false, eval a X.env) :: starEach [] X.env := by rfl) : FE X c U (.Call (.Name "len" p) [.Call (.Name "set" p2) [a] [] q] [] pos) (e1 lenSetD F) := by
  obtain ⟨t, pe, r⟩ := h
  refine ⟨_, pe_lenSetX hg hm hg2 hm2 pe hc na, fun Z H0 O en σ H m Q hE hG => r Z H0 O en σ H m _ hE (hG.bd.mono (fun d m1 k1 x H1 s1 d1 q1 => ?_) fun _ _ k => k)⟩
  obtain ⟨e, he, k2⟩ := k1.lft
  obtain ⟨xs, h1, h2⟩ := Option.bind_eq_some_iff.mp he
  obtain ⟨ns, h3, h4⟩ := Option.bind_eq_some_iff.mp h2
  obtain rfl := lstD_some h1
  obtain rfl := intsD_some h3
  by_cases hn : ns.length ≤ 4000
  · rw [if_pos hn] at h4
    cases h4
    cases (show Dq X.K _ x (.list (ns.map PyData.int)) from q1) with
    | lst g1 g2 =>
      obtain rfl := DqAll.ints g2
      exact ⟨_, ns, rfl, .inl (same_rd (hide_same _ _) g1), hn, k2 _ H1 s1 d1 (.int _)⟩
  · rw [if_neg hn] at h4
    cases h4
/-! ### while -/
def whL (T : SE → M Bool) (B : SE → M Ctl) : Nat → SE → M Ctl
  | 0, _ => M.no
  | n + 1, en => do
    let b ← T en
    if b = true then do
      let k ← B en
      match k with
      | .nx e => whL T B n e
      | .ct e => whL T B n e
      | .bk e => pure (.nx e)
      | .rt d => pure (.rt d)
    else pure (.nx en)
def sWhile (n : Nat) (T : SE → M Bool) (B : SE → M Ctl) : SE → M Ctl := whL T B n
theorem fs_while (n : Nat) {e : Expr} {body : List Stmt} {T : SE → M Bool} {B : SE → M Ctl} {pos : Pos} (hp : PassesOwn (model X.prog X.w) X.A X.env X.xe) (ht : FT X c U e T) (hb : FSs X c U U body B U) : FS X c UL U (.While e body [] pos) (sWhile n T B) U := by
  obtain ⟨tt, pt, rt⟩ := ht
  obtain ⟨tb, pb, rb⟩ := hb
  refine ⟨_, ps_while hp pt pb, fun Z H0 O en σ H m Ds hE hG => ?_⟩
  refine ⟨fun n σ H => ∃ O en m, EnvOk X.K c.W c.ms c.dk Z H0 U O en σ H m ∧ Good (whL T B n en m) (fun k m' => KOk X c Z H0 UL U Ds m' k) (fun x m' => ∀ σ', ExK X c Z σ' H0 x m'), ⟨n, O, en, m, hE, hG⟩, ?_⟩
  rintro n σ H ⟨O, en, m, hE, hG⟩
  cases n with
  | zero => exact hG.elim
  | succ n =>
    have hG : Good ((T en >>= fun b => if b = true then (B en >>= fun k => (match k with | .nx e => whL T B n e | .ct e => whL T B n e | .bk e => pure (.nx e) | .rt d => pure (.rt d) : M Ctl)) else pure (.nx en)) m) _ _ := hG
    refine rt Z H0 O en σ H m _ hE ((Good.bd hG).mono (fun bo m1 k1 H1 s1 d1 => ?_) fun _ _ k => ExK.out hE k)
    have E1 := hE.step s1 d1
    cases bo with
    | false => exact (show ∀ O' σ' H', EnvOk X.K c.W c.ms c.dk Z H0 U O' en σ' H' m1 → Ds.nx σ' H' from k1) O σ H1 E1
    | true =>
      have k1 : Good ((B en >>= fun k => (match k with | .nx e => whL T B n e | .ct e => whL T B n e | .bk e => pure (.nx e) | .rt d => pure (.rt d) : M Ctl)) m1) _ _ := k1
      refine ⟨fun σ' H' => ∃ O en m, EnvOk X.K c.W c.ms c.dk Z H0 U O en σ' H' m ∧ Good (whL T B n en m) (fun k m' => KOk X c Z H0 UL U Ds m' k) (fun x m' => ∀ σ', ExK X c Z σ' H0 x m'), fun σ' H' q => ⟨n, Nat.lt_succ_self n, q⟩, ?_⟩
      refine rb Z H0 O en σ H1 m1 _ E1 ((Good.bd k1).mono (fun k m2 k2 => ?_) fun _ _ k => k)
      cases k with
      | nx e2 => exact fun O' σ' H' E' => ⟨O', e2, m2, E', k2⟩
      | ct e2 => exact fun O' σ' H' E' => ⟨O', e2, m2, E', k2⟩
      | bk e2 => exact fun O' σ' H' E' => (show ∀ O' σ' H', EnvOk X.K c.W c.ms c.dk Z H0 U O' e2 σ' H' m2 → Ds.nx σ' H' from k2) O' σ' H' E'
      | rt d => exact k2
end
end VL
/-! the value layer: tuples compared, sorted, found; lists joined -/
namespace VL
open PySem
open PySem.Spec
open L2
theorem dpAll_ints {K : PySem.W.Frag} {H : Hp} : ∀ {ns : List Int} {vs : List V}, DpAll K H vs (ns.map PyData.int) → vs = ns.map V.int
  | [], _, h => by cases h; rfl
  | n :: ns, _, h => by
    cases h with
    | cons h1 h2 =>
      cases h1
      rw [dpAll_ints h2]
      rfl
theorem nd0s_ints : ∀ ns : List Int, nd0s (ns.map PyData.int) = true
  | [] => by unfold nd0s; rfl
  | n :: ns => by
    show nd0s (.int n :: ns.map PyData.int) = true
    unfold nd0s
    rw [nd0s_ints ns]
    unfold nd0
    rfl
theorem Br.tupI {K : PySem.W.Frag} {Zs : List Addr} {H : Hp} {v : V} {ns : List Int} (h : Br K Zs H (.tuple (ns.map PyData.int)) v) : ∃ a, v = .ref a ∧ SqT K H a (ns.map V.int) := by
  have h' := h.dp (by unfold nd0; exact nd0s_ints ns)
  cases h' with
  | tup h1 h2 =>
    rw [dpAll_ints h2] at h1
    exact ⟨_, rfl, h1⟩
/-! ### t <= u -/
def lexLeT (ns ms : List Int) : Bool := Ob.lexAt (fun j => decide (ns.getD j 0 = ms.getD j 0)) (fun j => decide (ns.getD j 0 ≤ ms.getD j 0)) (decide (ns.length ≤ ms.length)) 0 (min ns.length ms.length)
def leTD (a b : D) : Option D := match a, b with
  | .tuple xs, .tuple ys => (intsD xs).bind fun ns => (intsD ys).bind fun ms => some (.bool (lexLeT ns ms))
  | _, _ => none
/-- the object's kind is asked ahead of the argument -/
def eTy (ty : D → Option Unit) (g : D → D → Option D) (F G : SE → M D) : SE → M D := fun en => do
  let a ← F en
  let _ ← lft (ty a)
  let b ← G en
  lft (g a b)
def tyL : D → Option Unit
  | .list _ => some ()
  | _ => none
theorem tyL_some {d : D} {u : Unit} (h : tyL d = some u) : ∃ xs, d = .list xs := by
  unfold tyL at h
  split at h
  · exact ⟨_, rfl⟩
  · cases h
section
variable {X : Cx} {c : Ct} {U Un UL : List Nat}
theorem ov_leT (hu : X.A.units + 64 < cLine) : OpV X (compareOp .LtE) leTD :=
  ⟨_, op_leT (by omega), fun Zs x y H a b d Q hz ha hb hg k => by
    unfold leTD at hg
    split at hg
    · rename_i xs ys
      obtain ⟨ns, h1, h2⟩ := Option.bind_eq_some_iff.mp hg
      obtain ⟨ms, h3, h4⟩ := Option.bind_eq_some_iff.mp h2
      cases h4
      obtain rfl := intsD_some h1
      obtain rfl := intsD_some h3
      obtain ⟨p, rfl, hp⟩ := ha.tupI
      obtain ⟨q, rfl, hq⟩ := hb.tupI
      exact ⟨p, q, ns, ms, rfl, rfl, hp, hq, k _ _ (Same.refl _) (.bl _)⟩
    · cases hg⟩
/-! ### sorted(list of int tuples) -/
def tupIs : D → Option (List Int)
  | .tuple xs => intsD xs
  | _ => none
def allTup : List D → Option (List (List Int))
  | [] => some []
  | d :: ds => (tupIs d).bind fun n => (allTup ds).bind fun ns => some (n :: ns)
def tupI (ns : List Int) : D := .tuple (ns.map PyData.int)
theorem allTup_some : ∀ {ds : List D} {nss : List (List Int)}, allTup ds = some nss → ds = nss.map tupI
  | [], nss, h => by cases h; rfl
  | d :: ds, nss, h => by
    unfold allTup at h
    obtain ⟨n, h1, h2⟩ := Option.bind_eq_some_iff.mp h
    obtain ⟨ns, h3, h4⟩ := Option.bind_eq_some_iff.mp h2
    cases h4
    unfold tupIs at h1
    split at h1
    · rw [allTup_some h3, intsD_some h1]
      rfl
    · cases h1
theorem allTup_map : ∀ nss : List (List Int), allTup (nss.map tupI) = some nss
  | [] => rfl
  | n :: nss => by
    show ((intsD (n.map PyData.int)).bind fun n => (allTup (nss.map tupI)).bind fun ns => some (n :: ns)) = _
    rw [intsD_ints, allTup_map nss]
    rfl
def cLe (a b : List Int) : Bool := decide (TS.code 64 a ≤ TS.code 64 b)
def sortTs (nss : List (List Int)) : List (List Int) := nss.mergeSort cLe
def fitTs (nss : List (List Int)) : Bool := decide (nss.length < 64) && decide (1 ≤ nss.head!.length) && nss.all fun n => decide (n.length = nss.head!.length) && n.all fun x => decide (0 ≤ x ∧ x < 64)
def sortTD (d : D) : Option D := (lstD d).bind fun xs => (allTup xs).bind fun nss => if nss = [] then some (.list []) else if fitTs nss = true then some (.list ((sortTs nss).map tupI)) else none
theorem code_eq {B : Int} : ∀ {n m : List Int}, n.length = m.length → TS.Bd B n → TS.Bd B m → TS.code B n = TS.code B m → n = m
  | [], [], _, _, _, _ => rfl
  | [], _ :: _, h, _, _, _ => by cases h
  | _ :: _, [], h, _, _, _ => by cases h
  | x :: n, y :: m, h, h1, h2, e => by
    have hl : n.length = m.length := by simpa using h
    have hxy : x = y := by
      rcases Int.lt_trichotomy x y with q | q | q
      · have := TS.code_lt hl h1.tail h2.tail q
        omega
      · exact q
      · have := TS.code_lt hl.symm h2.tail h1.tail q
        omega
    subst hxy
    have e' : x * B ^ n.length + TS.code B n = x * B ^ m.length + TS.code B m := e
    rw [hl] at e'
    rw [code_eq hl h1.tail h2.tail (by omega)]
theorem sort_uniq {nss ms : List (List Int)} {d : Nat} (hd : ∀ n ∈ nss, n.length = d ∧ TS.Bd 64 n) (hp : ms.Perm nss) (hs : ms.Pairwise fun x y => TS.code 64 x ≤ TS.code 64 y) : ms = sortTs nss := by
  have p1 : (sortTs nss).Perm nss := List.mergeSort_perm _ _
  have s1 : (sortTs nss).Pairwise fun x y => TS.code 64 x ≤ TS.code 64 y := by
    refine List.Pairwise.imp (fun {a b} h => ?_) (List.pairwise_mergeSort (le := cLe) (fun a b c h1 h2 => ?_) (fun a b => ?_) nss)
    · exact of_decide_eq_true h
    · have h1 := of_decide_eq_true h1
      have h2 := of_decide_eq_true h2
      exact decide_eq_true (Int.le_trans h1 h2)
    · unfold cLe
      rcases Int.le_total (TS.code 64 a) (TS.code 64 b) with q | q
      · rw [decide_eq_true q]; rfl
      · rw [decide_eq_true q, Bool.or_true]
  refine List.Perm.eq_of_pairwise (le := fun x y => TS.code 64 x ≤ TS.code 64 y) (fun a b ha hb h1 h2 => ?_) hs s1 (hp.trans p1.symm)
  have ha := hd a (hp.mem_iff.mp ha)
  have hb := hd b (p1.mem_iff.mp hb)
  exact code_eq (ha.1.trans hb.1.symm) ha.2 hb.2 (Int.le_antisymm h1 h2)

theorem dqAll_perm {K : PySem.W.Frag} {H : Hp} : ∀ {ys xs : List V}, ys.Perm xs → ∀ {ds : List D}, DqAll K H xs ds → ∃ es, es.Perm ds ∧ DqAll K H ys es := by
  intro ys xs p
  induction p with
  | nil => exact fun {ds} h => ⟨ds, .refl _, h⟩
  | cons x p ih =>
    intro ds h
    cases h with
    | cons h1 h2 =>
      obtain ⟨es, p1, q1⟩ := ih h2
      exact ⟨_ :: es, p1.cons _, .cons h1 q1⟩
  | swap x y l =>
    intro ds h
    cases h with
    | cons h1 h2 =>
      cases h2 with
      | cons h2 h3 => exact ⟨_ :: _ :: _, .swap _ _ _, .cons h2 (.cons h1 h3)⟩
  | trans p q ih1 ih2 =>
    intro ds h
    obtain ⟨es, p1, q1⟩ := ih2 h
    obtain ⟨es', p2, q2⟩ := ih1 q1
    exact ⟨es', p2.trans p1, q2⟩
theorem dq_tupI {K : PySem.W.Frag} {Zs : List Addr} {H : Hp} {x : V} {n : List Int} (h : Dq K (hide Zs H) x (tupI n)) : TupI K H x n := by
  obtain ⟨a, xs, rfl, h1, h2⟩ := Dq.tupE h
  obtain rfl := DqAll.ints h2
  exact ⟨a, rfl, .inl (same_rd (hide_same _ _) h1)⟩
theorem dqAll_mem {K : PySem.W.Frag} {H : Hp} : ∀ {xs : List V} {ds : List D}, DqAll K H xs ds → ∀ x ∈ xs, ∃ d ∈ ds, Dq K H x d
  | [], _, _, x, hx => by cases hx
  | y :: xs, _, .cons h1 h2, x, hx => by
    rcases List.mem_cons.mp hx with rfl | hx
    · exact ⟨_, List.mem_cons_self, h1⟩
    · obtain ⟨d, hd, q⟩ := dqAll_mem h2 x hx
      exact ⟨d, List.mem_cons_of_mem _ hd, q⟩
theorem pw_dq {K : PySem.W.Frag} {Zs : List Addr} {H : Hp} : ∀ {ys : List V} {ms : List (List Int)}, DqAll K (hide Zs H) ys (ms.map tupI) → ys.Pairwise (fun x y => ∀ n m, TupI K H x n → TupI K H y m → TS.code 64 n ≤ TS.code 64 m) → ms.Pairwise fun x y => TS.code 64 x ≤ TS.code 64 y
  | [], [], _, _ => .nil
  | [], _ :: _, h, _ => by cases h
  | _ :: _, [], h, _ => by cases h
  | y :: ys, m :: ms, h, p => by
    cases h with
    | cons h1 h2 =>
      obtain ⟨p1, p2⟩ := List.pairwise_cons.mp p
      refine List.pairwise_cons.mpr ⟨fun m' hm' => ?_, pw_dq h2 p2⟩
      obtain ⟨i, hi⟩ := List.mem_iff_getElem?.mp hm'
      obtain ⟨w, hw, hq⟩ := DqAll.get (i := i) (d := tupI m') h2 (by rw [List.getElem?_map, hi]; rfl)
      exact p1 w (List.mem_of_getElem? hw) m m' (dq_tupI h1) (dq_tupI hq)
theorem perm_tupI {es : List D} {nss : List (List Int)} (h : es.Perm (nss.map tupI)) : ∃ ms : List (List Int), es = ms.map tupI ∧ ms.Perm nss := by
  have key : ∀ {es fs : List D}, es.Perm fs → ∀ nss : List (List Int), fs = nss.map tupI → ∃ ms : List (List Int), es = ms.map tupI ∧ ms.Perm nss := by
    intro es fs h
    induction h with
    | nil => exact fun nss e => ⟨nss, e, .refl _⟩
    | cons x p ih =>
      intro nss e
      cases nss with
      | nil => cases e
      | cons n nss =>
        cases e
        obtain ⟨ms, e1, p1⟩ := ih nss rfl
        exact ⟨n :: ms, by rw [e1]; rfl, p1.cons _⟩
    | swap x y l =>
      intro nss e
      cases nss with
      | nil => cases e
      | cons n nss =>
        cases nss with
        | nil => cases e
        | cons n' nss =>
          cases e
          exact ⟨n' :: n :: nss, rfl, .swap _ _ _⟩
    | trans p q ih1 ih2 =>
      intro nss e
      obtain ⟨ms, e1, p1⟩ := ih2 nss e
      obtain ⟨ms', e2, p2⟩ := ih1 ms e1
      exact ⟨ms', e2, p2.trans p1⟩
  exact key h nss rfl
theorem fitTs_bd {nss : List (List Int)} (h : fitTs nss = true) : nss.length < 64 ∧ 1 ≤ nss.head!.length ∧ ∀ n ∈ nss, n.length = nss.head!.length ∧ TS.Bd 64 n := by
  unfold fitTs at h
  simp only [Bool.and_eq_true, decide_eq_true_eq, List.all_eq_true] at h
  obtain ⟨⟨h1, h2⟩, h3⟩ := h
  exact ⟨h1, h2, fun n hn => ⟨(h3 n hn).1, fun x hx => (h3 n hn).2 x hx⟩⟩
theorem cr_sortT2 (k : Nat) (hk : 1 ≤ k) : CallR X (.builtin "sorted") (rSortU X.K k 64) := cr_sortT hk
def rSortA (K : PySem.W.Frag) : List V → Hp → VK → Prop := fun vs H Q => ∃ k, 1 ≤ k ∧ rSortU K k 64 vs H Q
theorem cr_sortA : CallR X (.builtin "sorted") (rSortA X.K) := by
  intro pins s σ H vs us Q I r h
  obtain ⟨k, hk, h⟩ := h
  exact cr_sortT hk pins s σ H vs us Q I r h
theorem co_sortT : CallO X .dat (.builtin "sorted") (one1 sortTD) := co1 cr_sortA fun Zs v H a d Q hz hv hg k => by
  unfold sortTD at hg
  obtain ⟨xs, h1, h2⟩ := Option.bind_eq_some_iff.mp hg
  obtain ⟨nss, h3, h4⟩ := Option.bind_eq_some_iff.mp h2
  obtain rfl := lstD_some h1
  obtain rfl := allTup_some h3
  obtain ⟨p, us, rfl, e1, e2⟩ := hv.lst
  by_cases hn : nss = []
  · rw [if_pos hn] at h4
    cases h4
    subst hn
    cases e2
    refine ⟨1, Nat.le_refl _, p, [], rfl, e1, by decide, (fun x hx => absurd hx (by simp)), fun ys q hp _ hq => ?_⟩
    rw [hp.eq_nil]
    exact k q _ _ (same_new hq _) hq upd_same (.lst _ _ .nil) rfl
  · rw [if_neg hn] at h4
    by_cases hf : fitTs nss = true
    · rw [if_pos hf] at h4
      cases h4
      obtain ⟨b1, b2, b3⟩ := fitTs_bd hf
      refine ⟨nss.head!.length, b2, p, us, rfl, e1, by rw [DqAll.length e2, List.length_map]; exact b1, fun x hx => ?_, fun ys q hp hs hq => ?_⟩
      · obtain ⟨dd, hd, q⟩ := dqAll_mem e2 x hx
        obtain ⟨n, hn, rfl⟩ := List.mem_map.mp hd
        exact ⟨n, dq_tupI q, b3 n hn⟩
      · obtain ⟨es, p1, q1⟩ := dqAll_perm hp e2
        obtain ⟨ms, rfl, p2⟩ := perm_tupI p1
        have := sort_uniq b3 p2 (pw_dq q1 hs)
        subst this
        exact k q _ _ (same_new hq _) hq upd_same (.lst _ _ (DqAll.mono (hide_push hq) q1)) rfl
    · rw [if_neg hf] at h4
      cases h4
/-! ### list.count(int) -/
def tyLst (K : PySem.W.Frag) (x : V) (H : Hp) : Prop := ∃ a xs, x = .ref a ∧ SqL K H a xs
theorem ty_lst : TyOk X "list" (tyLst X.K) := by
  intro pins σ H s x v I r ty
  obtain ⟨a, xs, rfl, h⟩ := ty
  cases r
  obtain ⟨its, rv, ⟨o, n, ho, hc, hdn, hd⟩, hlen⟩ := I.list h
  refine ⟨⟨o, ho, hc⟩, fun b q => ?_⟩
  cases q
  exact ⟨o, ho, hdn⟩
def cntD (d e : D) : Option D := match d, e with
  | .list xs, .int i => (intsD xs).bind fun ns => some (.int (ns.count i : Nat))
  | _, _ => none
theorem fe_count {e o : Expr} {apos cpos : Pos} {F G : SE → M D} (ho : FE X c U o F) (h : FE X c U e G)
    (hbase : attributeBase o "count" X.env (eval o X.env) = eval o X.env := by rfl)
    (hfew : ((backTo cpos (starEach [e] X.env)).all (fun x => !x.1) && (backToKw cpos (keywordEach [] X.env)).all (fun x => x.1.isSome)
      && decide (([e] : List Expr).length + ([] : List Keyword).length + (if ([] : List Keyword).isEmpty then 0 else 1) < 30)) = true := by rfl)
    (hline : (apos.endLine == cpos.line) = true := by rfl) (hs : starEach [e] X.env = (false, eval e X.env) :: starEach [] X.env := by rfl) (hplain : (backTo cpos (starEach [] X.env)).any (·.1) = false := by rfl) :
    FE X c U (.Call (.Attribute o "count" apos) [e] [] cpos) (eTy tyL cntD F G) := by
  obtain ⟨to, po, ro⟩ := ho
  obtain ⟨t, p, r⟩ := h
  refine ⟨_, pe_mG ty_lst PySem.F.plainAttrs_list PySem.F.slot_list_count PySem.F.type_list_count mt_lcount po (pa_cons p pa_nil hs) hbase hfew hline hs hplain, fun Z H0 O en σ H m Q hE hG => ?_⟩
  refine ro Z H0 O en σ H m _ hE (hG.bd.mono (fun a m1 k1 x H1 s1 d1 q1 => ?_) fun _ _ k => k)
  obtain ⟨u, hu, k1⟩ := k1.bd.lft
  obtain ⟨xs, rfl⟩ := tyL_some hu
  obtain ⟨p', vs, rfl, h1, h2⟩ := Dq.lstE q1
  refine ⟨⟨p', vs, rfl, .inl (same_rd (hide_same _ _) h1)⟩, r Z H0 O en σ H1 m1 _ (hE.step s1 d1) (k1.bd.mono (fun b m2 k2 y H2 s2 d2 q2 => ?_) fun _ _ k => k.step s1)⟩
  obtain ⟨d, hd, k3⟩ := k2.lft
  unfold cntD at hd
  split at hd
  · rename_i xs' i e0
    cases e0
    obtain ⟨ns, g1, g2⟩ := Option.bind_eq_some_iff.mp hd
    cases g2
    obtain rfl := intsD_some g1
    obtain rfl := DqAll.ints h2
    cases (show Dq X.K _ y (.int _) from q2)
    exact ⟨p', ns, _, rfl, rfl, .inl (same_rd (hide_same _ _) (same_rd (s2.hide hE.wzo) h1)), k3 _ H2 (s1.trans s2) d2 (.int _)⟩
  · cases hd
end
end VL
/-! the value layer: tuple.index of any data; list + list; the empty tuple; a list lent to a def -/
namespace VL
open PySem
open PySem.Spec
open L2
section
variable {X : Cx} {c : Ct} {U Un UL : List Nat}
def rIndexT (K : PySem.W.Frag) : V → List V → Hp → VK → Prop := fun x xs H Q => ∃ (a : Addr) (y : V) (d : PyData) (ds : List PyData) (j : Nat) (z : PyData), x = V.ref a ∧ xs = [y] ∧ Dp K H (V.ref a) (.tuple ds) ∧ Dp K H y d ∧
  SeqAt.shaped (.tuple ds) = true ∧ SeqAt.shaped d = true ∧ ds[j]? = some z ∧ PyData.eqv z d = true ∧ (∀ (m : Nat) (z' : PyData), m < j → ds[m]? = some z' → PyData.eqv z' d = false) ∧ Q (.int (j : Nat)) H
theorem mt_indexT (hu : X.A.units + 65 < cLine) : MtR X "tuple.index" (rIndexT X.K) := by
  intro pins s σ H x xs v us Q I rx rxs h
  obtain ⟨a, y, d, ds, j, z, rfl, rfl, hl, hy, sl, sd, hz, hzj, hno, q⟩ := h
  cases rx
  cases rxs with
  | cons ry rt =>
    rename_i uy ut
    cases rt
    obtain ⟨bs, r1⟩ := Dp.reads I d y uy hy ry
    have hxs : PyData.canLayAll0 ds = true := SeqAt.canLay_of_shaped sl
    have hroom : X.A.units + 1 + min (PyData.depthAll ds) d.depth < cLine := PyProof.Rows.room_in_shaped sd hu
    cases hl with
    | tup hs ha =>
      obtain ⟨its, rv, ⟨⟨cls, dd, data, sls⟩, ho, hc, n, hdt⟩, hlen⟩ := I.tuple hs
      simp only at hc hdt
      subst hc hdt
      obtain ⟨as, h4⟩ := Dp.readsAll I ds _ its ha rv
      have hn : its.length = ds.length := SeqAt.ReadsAll.length ds its as h4
      have hmap : its.map (SeqAt.readOf s.heap) = ds := SeqAt.readsAll_map ds its as hxs h4
      have hvl := rv.length
      obtain ⟨hjd, _⟩ := List.getElem?_eq_some_iff.mp hz
      have hjl : j < its.length := by omega
      have hj : j < its.toArray.size := by simpa using hjl
      have at_ : ∀ (m : Nat) (hm : m < its.toArray.size) (z' : PyData), ds[m]? = some z' → SeqAt.readOf s.heap its.toArray[m] = z' := by
        intro m hm z' hz'
        have hml : m < its.length := by simpa using hm
        rw [← hmap, List.getElem?_map, List.getElem?_eq_getElem hml] at hz'
        have e1 : SeqAt.readOf s.heap its[m] = z' := Option.some.inj (show some (SeqAt.readOf s.heap its[m]) = some z' from hz')
        simpa using e1
      refine call_meets PySem.F.slot_tuple_index ⟨_, ho, rfl⟩ PySem.F.entry_tuple_index (PySem.F.args_tuple_index_2 _ _)
        (TI.tuple_indexAt a its.toArray n dd sls uy (fun u => PyData.eqv (SeqAt.readOf s.heap u) d) j hj ?_ ?_) ⟨ho, SeqAt.items_eqAt (vs := its.toArray) (show PySem.ReadsAll s.heap its.toArray.toList ds as from h4) r1 hxs (SeqAt.canLay_of_shaped sd) hroom, ?_⟩
      · show PyData.eqv (SeqAt.readOf s.heap its.toArray[j]) d = true
        rw [at_ j hj z hz]
        exact hzj
      · intro m hm hmj
        have hmd : m < ds.length := by omega
        have hz' : ds[m]? = some ds[m] := List.getElem?_eq_getElem hmd
        show PyData.eqv (SeqAt.readOf s.heap its.toArray[m]) d = false
        rw [at_ m hm _ hz']
        exact hno m _ hmj hz'
      · exact ⟨.int (j : Nat), H, I.tok _, ⟨_, rfl⟩, q⟩
def idxDD (d e : D) : Option D := match d with
  | .tuple xs => if (SeqAt.shaped (.tuple xs) && SeqAt.shaped e && decide (xs.findIdx (fun z => PyData.eqv z e) < xs.length)) = true then some (.int (xs.findIdx (fun z => PyData.eqv z e) : Nat)) else none
  | _ => none
theorem fe_tindexD (hu : X.A.units + 65 < cLine) {e o : Expr} {apos cpos : Pos} {F G : SE → M D} (ho : FR X c U .nd o F) (h : FE X c U e G)
    (hbase : attributeBase o "index" X.env (eval o X.env) = eval o X.env := by rfl)
    (hfew : ((backTo cpos (starEach [e] X.env)).all (fun x => !x.1) && (backToKw cpos (keywordEach [] X.env)).all (fun x => x.1.isSome)
      && decide (([e] : List Expr).length + ([] : List Keyword).length + (if ([] : List Keyword).isEmpty then 0 else 1) < 30)) = true := by rfl)
    (hline : (apos.endLine == cpos.line) = true := by rfl) (hs : starEach [e] X.env = (false, eval e X.env) :: starEach [] X.env := by rfl) (hplain : (backTo cpos (starEach [] X.env)).any (·.1) = false := by rfl) :
    FE X c U (.Call (.Attribute o "index" apos) [e] [] cpos) (e2 idxDD F G) := by
  obtain ⟨to, po, ro⟩ := ho
  obtain ⟨t, p, r⟩ := h
  refine ⟨_, pe_mG ty_nd PySem.F.plainAttrs_tuple PySem.F.slot_tuple_index PySem.F.type_tuple_index (mt_indexT hu) po (pa_cons p pa_nil hs) hbase hfew hline hs hplain, fun Z H0 O en σ H m Q hE hG => ?_⟩
  refine ro Z H0 O en σ H m _ hE (hG.bd.mono (fun a m1 k1 x H1 s1 d1 q1 => ?_) fun _ _ k => k)
  refine ⟨q1.2.mono (hide_same _ _), r Z H0 O en σ H1 m1 _ (hE.step s1 d1) (k1.bd.mono (fun b m2 k2 y H2 s2 d2 q2 => ?_) fun _ _ k => k.step s1)⟩
  obtain ⟨d, hd, k3⟩ := k2.lft
  unfold idxDD at hd
  split at hd
  · rename_i xs
    by_cases hc : (SeqAt.shaped (.tuple xs) && SeqAt.shaped b && decide (xs.findIdx (fun z => PyData.eqv z b) < xs.length)) = true
    · rw [if_pos hc] at hd
      cases hd
      simp only [Bool.and_eq_true, decide_eq_true_eq] at hc
      obtain ⟨⟨g1, g2⟩, g3⟩ := hc
      obtain ⟨a, vs, rfl, h1, h2⟩ := Dq.tupE q1.1
      have q1' : Dq X.K H2 (.ref a) (.tuple xs) := (q1.1.mono (s2.hide hE.wzo)).mono (hide_same _ _)
      have q2' : Dq X.K H2 y b := (show Dq X.K _ y b from q2).mono (hide_same _ _)
      refine ⟨a, y, b, xs, xs.findIdx (fun z => PyData.eqv z b), xs[xs.findIdx (fun z => PyData.eqv z b)], rfl, rfl, q1'.dp (noDic_of g1), q2'.dp (noDic_of g2), g1, g2, List.getElem?_eq_getElem g3, ?_, fun m z' hm hz => ?_, k3 _ H2 (s1.trans s2) d2 (.int _)⟩
      · exact List.findIdx_getElem (w := g3) (p := fun z => PyData.eqv z b)
      · obtain ⟨hm', rfl⟩ := List.getElem?_eq_some_iff.mp hz
        have := List.not_of_lt_findIdx hm
        exact this
    · rw [if_neg hc] at hd
      cases hd
  · cases hd
/-! ### list + list, both new -/
theorem fo_cat {ea eb : Expr} {pos : Pos} {F G : SE → M D} (ha : FO X c U .dat ea F) (hb : FO X c U .dat eb G) : FO X c U .dat (.BinOp ea .Add eb pos) (e2 catD F G) := by
  obtain ⟨ta, pa, ra⟩ := ha
  obtain ⟨tb, pb, rb⟩ := hb
  refine ⟨_, pe_op op_cat pa pb, fun Z H0 O en σ H m Q hE hG => ra Z H0 O en σ H m _ hE (hG.bd.mono (fun d m1 k1 v o H1 s1 d1 n1 o1 r1 e1 => ?_) fun _ _ k => k)⟩
  have nv : v ∉ ZO Z O := fun z => hE.zt v z n1
  have n0 := hE.none0 n1
  have E1 : EnvOk X.K c.W c.ms c.dk (v :: Z) H0 U O en σ H1 m1 := hE.temp s1 d1 n1 (by rw [o1]; exact fun x => nomatch x)
  refine rb (v :: Z) H0 O en σ H1 m1 _ E1 (k1.bd.mono (fun d' m2 k2 w o' H2 s2 d2 n2 o2 r2 e2 => ?_) fun x m' k => (k.step s1).temp)
  obtain ⟨r, hr, k3⟩ := k2.lft
  have hw0 := E1.nw0 n0
  have o1' : H2 v = some o := s2 v o (fun w q => ⟨(hw0 w q).1, (hw0 w q).2.2⟩) o1
  unfold catD at hr
  split at hr
  · rename_i xs ys
    by_cases hl : xs.length + ys.length ≤ lineN
    · rw [if_pos hl] at hr
      cases hr
      cases r1 with
      | lst _ us h1 =>
        cases r2 with
        | lst _ ws h2 =>
          refine ⟨v, w, us, ws, rfl, rfl, o1', o2, by rw [DqAll.length h1, DqAll.length h2]; exact Nat.le_trans hl lineN_le, fun p hp => ?_⟩
          have st : SameW c.W H (upd H2 p (.lst (us ++ ws))) := (s1.trans s2).trans (.of (same_new hp _))
          refine k3 p _ _ st (d2.same (same_new hp _)) (hE.same_none (s1.trans s2) d2 hp) upd_same ?_ rfl
          have nw : w ∉ ZO (v :: Z) O := fun z => E1.zt w z n2
          have t1 : Same (hide (v :: ZO Z O) H1) (hide (w :: v :: ZO Z O) H2) := hide_temp (Z := v :: ZO Z O) s2 E1.wzo n2
          have t2 : Same (hide (w :: v :: ZO Z O) H2) (hide (ZO Z O) H2) := hide_sub fun b hb => List.mem_cons_of_mem _ (List.mem_cons_of_mem _ hb)
          have t3 : Same (hide (ZO Z O) H2) (hide (p :: ZO Z O) (upd H2 p (.lst (us ++ ws)))) := hide_push hp
          refine .lst _ _ (DqAll.append (DqAll.mono ((t1.trans t2).trans t3) h1) (DqAll.mono (Same.trans (Same.trans ?_ t2) t3) h2))
          exact hide_sub fun b hb => hb
    · rw [if_neg hl] at hr
      cases hr
  · cases hr

/-! ### the displayed tuple known to the object -/
def tTupN (t : TA) : TE := fun σ H Q => t σ H fun xs H1 => xs.length ≤ sizeLine ∧ ∀ p o, o.dict = none → H1 p = none → Q (.ref p) (upd H1 p (.frz o (.tup xs)))
theorem pe_tupN {es : List Expr} {t : TA} {pos : Pos} {x1} (h : PA X es t) : PE X (.Tuple es x1 pos) (tTupN t) := by
  refine ⟨fun pins s σ H Q I hq => ?_⟩
  refine wpAny_Tuple_spliced (thn (h.run pos pins s σ H _ I hq) fun us s1 ⟨xs, H1, I1, r, z, q⟩ => ⟨by rw [← r.length]; exact z, ?_⟩)
  have hf : H1 s1.heap.objs.size = none := I1.hok.fresh (Nat.le_refl _)
  refine ⟨.ref s1.heap.objs.size, upd H1 s1.heap.objs.size (.frz { cls := .type "tuple", data := .seq us.toArray } (.tup xs)), I1.laid (t' := s1.toks) (fun b u e => Heap.get?_push_of_some _ e) (Nat.le_refl _) ?_, rfl, q _ _ rfl hf⟩
  exact ⟨Heap.get?_push_size _ rfl, z, us, r, PyProof.Rows.IsTup.new _ _⟩
theorem fr_tupD {n : Nat} {ks : List Kd} {es : List Expr} {F : SE → M (List D)} {x1 pos} (h : FA X c U es ks F) (hk : ks = List.replicate n Kd.dat := by rfl) : FR X c U .nd (.Tuple es x1 pos) (eL mkT F) := by
  obtain ⟨t, p, r⟩ := h
  subst hk
  refine ⟨_, pe_tupN p, fun Z H0 O en σ H m Q hE hG => ?_⟩
  refine r Z H0 O en σ H m _ hE (hG.bd.mono (fun ds m1 k1 xs H1 s1 d1 q1 => ?_) fun _ _ k => k)
  obtain ⟨d, hd, k2⟩ := k1.lft
  have q := AllK.all q1
  unfold mkT at hd
  by_cases hc : ds.length ≤ lineN
  · rw [if_pos hc] at hd
    cases hd
    refine ⟨by rw [DqAll.length q]; exact Nat.le_trans hc lineN_le, fun l o ho hl => ?_⟩
    have E1 := hE.step s1 d1
    have nl : l ∉ ZO Z O := fun z => E1.zt l z hl
    have hn : hide (ZO Z O) (upd H1 l (.frz o (.tup xs))) l = some (.frz o (.tup xs)) := by rw [hide_ne nl, upd_same]
    exact k2 _ _ (s1.trans (.of (same_new hl _))) (d1.same (same_new hl _)) ⟨Dq.tup (.inr ⟨o, hn⟩) (DqAll.mono (hide_push0 hl) q), l, o, xs, rfl, hn, ho⟩
  · rw [if_neg hc] at hd
    cases hd
/-! ### a list lent to a def -/
def scaD : D → Option D
  | .int i => some (.int i)
  | .bool b => some (.bool b)
  | .none => some .none
  | .str s => some (.str s)
  | _ => none
theorem scaD_some {d r : D} (h : scaD d = some r) : d = r ∧ ∀ {K : PySem.W.Frag} {H H' : Hp} {v : V}, Dq K H v d → Dq K H' v r := by
  unfold scaD at h
  split at h <;> first | cases h | skip
  · exact ⟨rfl, fun q => by cases q; exact .int _⟩
  · exact ⟨rfl, fun q => by cases q; exact .bl _⟩
  · exact ⟨rfl, fun q => by cases q; exact .non⟩
  · exact ⟨rfl, fun q => by cases q; exact .str _⟩
def eCallL (Fn : List D → M D) (i : Nat) (A : SE → M (List D)) : SE → M D := fun en => do
  let d ← eVar i en
  let ds ← A en
  let r ← still (nox (Fn (d :: ds)))
  lft (scaD r)
theorem fe_callL (i : Nat) {k : Nat} {f : Addr} {fd : FuncData} {ps : List Str} {x y : Str} {p py pos : Pos} {es : List Expr} {ks : List Kd} {Fn : List D → M D} {A : SE → M (List D)}
    (C : Fc X.prog X.w X.K X.mg X.base x k f fd ps (.dat :: ks) .dat Fn) (hgd : X.A.guards = some []) (hr : Room k X.A) (ha : FA X c U es ks A) (hU : i ∈ U := by decide) (hk : c.dk i = .dat := by rfl) (hN : X.N[i]? = some y := by rfl) (hv : Vis X.env.scope y := by first | exact Or.inl rfl | exact Or.inr (Or.inl rfl) | exact Or.inr (Or.inr rfl)) (hd : (y == ("__debug__" : Str)) = false := by decide) (hcd : (y == ("__classdict__" : Str)) = false := by decide) (hg : Gl X x := by rfl)
    (hdb : (x == ("__debug__" : Str)) = false := by decide) (he : starEach (.Name y py :: es) X.env = (false, eval (.Name y py) X.env) :: starEach es X.env := by rfl) (hpl : (backTo pos (starEach es X.env)).any (·.1) = false := by rfl) : FE X c U (.Call (.Name x p) (.Name y py :: es) [] pos) (eCallL Fn i A) := by
  obtain ⟨t, pa, ra⟩ := ha
  refine ⟨_, pe_V C.fn hgd hr hg C.here C.kp C.bi pass0 (pa_cons (pe_var hN hv hd hcd) pa he) hdb he hpl, fun Z H0 O en σ H m Q hE hG => ?_⟩
  obtain ⟨d, hd1, hG2⟩ := eVar_good (Good.bd hG)
  have hi : i ∈ O.map (·.1) := (hE.us i).mpr hU
  obtain ⟨q, hq, hqi⟩ := List.mem_map.mp hi
  subst hqi
  obtain ⟨_, d', o, h1, h2, h3, h4, h5⟩ := hE.own q hq
  rw [hd1] at h1
  cases h1
  refine ⟨_, h2, ra Z H0 O en σ H m _ hE ((Good.bd hG2).mono (fun ds m1 k1 vs H1 s1 d1 q1 => ?_) fun _ _ k => k)⟩
  have E1 := hE.step s1 d1
  have hq1 : H1 q.2 = some o := s1 _ _ (hE.onw hq) h3
  have h4' := h4.mono (s1.hide hE.wzo)
  have h5 : c.dk q.1 = kO o := h5
  rw [hk] at h5
  have hD : Dq X.K (hide [] H1) (.ref q.2) d := by
    cases h4' with
    | lst ds' us hh => exact .lst (.inl (by rw [hide_ne (by simp)]; exact hq1)) (DqAll.mono (hide_sub fun b hb => by simp at hb) hh)
    | dic kvs o hh =>
      cases hh with
      | k => cases h5
      | t => cases h5
  refine ⟨[], d :: ds, (fun z hz => by simp at hz), ⟨hD, AllK.mono (hide_sub fun b hb => by simp at hb) q1⟩, ?_⟩
  refine (show Good (VL.nox (Fn (d :: ds)) ms0) _ _ from (Good.bd k1).still).nox.mono (fun r m2 k2 v H2 s2 q2 => ?_) fun _ _ k => k
  obtain ⟨r', hr', k3⟩ := Good.lft k2
  obtain ⟨rfl, hs⟩ := scaD_some hr'
  exact k3 v H2 (s1.trans (.of s2)) (d1.same s2) (hs (show Dq X.K _ v r from q2))
end
end VL
/-! the value layer: repr of shallow data with texts and long ints -/
namespace VL
open PySem
open PySem.Spec
open L2
theorem shown_int36 {i : Int} (h : i.natAbs < 10 ^ 36) : (PyData.shown (.int i)).length ≤ 40 := by
  have := int_text_length_le10 (k := 36) (by decide) h
  have e : (PyData.shown (.int i)).length = (toString i).length := by
    simp only [PyData.shown]
    exact ofString_length _
  omega
def strX (x : Str) : Bool := (PyData.str x).showable && (PyData.str x).canLay0 && (PyData.str x).leavesShort 40 && (PyData.str x).shown.cps.toList.all fun c => decide (c < 0x110000)
def intX (i : Int) : Bool := decide (i.natAbs < 10 ^ 36)
def plX : Nat → D → Bool
  | _, .int i => intX i
  | _, .bool _ => true
  | _, .none => true
  | _, .str x => strX x
  | n + 1, .list xs => xs.all (plX n)
  | n + 1, .tuple xs => xs.all (plX n)
  | _, _ => false
theorem strX_and {x : Str} (h : strX x = true) : (PyData.str x).showable = true ∧ (PyData.str x).canLay0 = true ∧ (PyData.str x).leavesShort 40 = true ∧ okS (PyData.str x).shown := by
  unfold strX at h
  simp only [Bool.and_eq_true, List.all_eq_true, decide_eq_true_eq] at h
  exact ⟨h.1.1.1, h.1.1.2, h.1.2, h.2⟩
theorem plX_and : ∀ (n : Nat) (d : D), plX n d = true → d.canLay0 = true ∧ d.depth ≤ n + 1 ∧ d.showable = true ∧ d.leavesShort 40 = true ∧ okS d.shown := by
  have hint : ∀ i : Int, intX i = true → (PyData.int i).canLay0 = true ∧ (PyData.int i).depth ≤ 0 + 1 ∧ (PyData.int i).showable = true ∧ (PyData.int i).leavesShort 40 = true ∧ okS (PyData.int i).shown := fun i h => by
    have h : i.natAbs < 10 ^ 36 := of_decide_eq_true h
    refine ⟨by simp [PyData.canLay0], by simp [PyData.depth], ?_, ?_, by simp only [PyData.shown]; exact okS_of _⟩
    · simp only [PyData.showable]
      refine decide_eq_true ?_
      by_cases q : i.natAbs = 0
      · rw [q]; decide
      · have : i.natAbs.log2 < 128 := (Nat.log2_lt q).mpr (Nat.lt_trans h (by decide))
        omega
    · simp only [PyData.leavesShort]
      exact decide_eq_true (shown_int36 h)
  intro n
  induction n with
  | zero =>
    intro d h
    cases d with
    | int i => exact hint i h
    | str x =>
      obtain ⟨h1, h2, h3, h4⟩ := strX_and h
      exact ⟨h2, by simp [PyData.depth], h1, h3, h4⟩
    | none => exact ⟨by simp [PyData.canLay0], by simp [PyData.depth], by simp [PyData.showable], by simp [PyData.leavesShort], by simp only [PyData.shown]; exact okS_of _⟩
    | bool b => exact ⟨by simp [PyData.canLay0], by simp [PyData.depth], by simp [PyData.showable], by simp [PyData.leavesShort], by cases b <;> (simp only [PyData.shown]; exact okS_of _)⟩
    | list _ => cases h
    | tuple _ => cases h
    | dict _ => cases h
  | succ n ih =>
    intro d h
    have key : ∀ xs : List D, xs.all (plX n) = true → PyData.canLayAll0 xs = true ∧ PyData.depthAll xs ≤ n + 1 ∧ PyData.showableAll xs = true ∧ PyData.leavesShortAll 40 xs = true ∧ ∀ t ∈ PyData.shownAll xs, okS t := by
      intro xs
      induction xs with
      | nil => intro _; exact ⟨by simp [PyData.canLayAll0], by simp [PyData.depthAll], by simp [PyData.showableAll], by simp [PyData.leavesShortAll], fun t ht => by simp [PyData.shownAll] at ht⟩
      | cons x xs ih2 =>
        intro h
        obtain ⟨h1, h2⟩ := Bool.and_eq_true_iff.mp h
        obtain ⟨a1, a2, a3, a4, a5⟩ := ih _ h1
        obtain ⟨b1, b2, b3, b4, b5⟩ := ih2 h2
        refine ⟨by simp [PyData.canLayAll0, a1, b1], by simp only [PyData.depthAll]; omega, by simp [PyData.showableAll, a3, b3], by simp [PyData.leavesShortAll, a4, b4], fun t ht => ?_⟩
        simp only [PyData.shownAll] at ht
        rcases List.mem_cons.mp ht with rfl | ht
        · exact a5
        · exact b5 t ht
    cases d with
    | int i =>
      obtain ⟨a1, a2, a3⟩ := hint i h
      exact ⟨a1, by omega, a3⟩
    | str x =>
      obtain ⟨h1, h2, h3, h4⟩ := strX_and h
      exact ⟨h2, by simp [PyData.depth], h1, h3, h4⟩
    | none => exact ⟨by simp [PyData.canLay0], by simp [PyData.depth], by simp [PyData.showable], by simp [PyData.leavesShort], by simp only [PyData.shown]; exact okS_of _⟩
    | bool b => exact ⟨by simp [PyData.canLay0], by simp [PyData.depth], by simp [PyData.showable], by simp [PyData.leavesShort], by cases b <;> (simp only [PyData.shown]; exact okS_of _)⟩
    | list xs =>
      obtain ⟨b1, b2, b3, b4, b5⟩ := key xs h
      exact ⟨by simp only [PyData.canLay0]; exact b1, by simp only [PyData.depth]; omega, by simp only [PyData.showable]; exact b3, by simp only [PyData.leavesShort]; exact b4, by simp only [PyData.shown]; exact okS_list b5⟩
    | tuple xs =>
      obtain ⟨b1, b2, b3, b4, b5⟩ := key xs h
      exact ⟨by simp only [PyData.canLay0]; exact b1, by simp only [PyData.depth]; omega, by simp only [PyData.showable]; exact b3, by simp only [PyData.leavesShort]; exact b4, by simp only [PyData.shown]; exact okS_tup b5⟩
    | dict _ => cases h
theorem plX_shaped {n : Nat} {d : D} (hn : n < 60) (h : plX n d = true) : SeqAt.shaped d = true := by
  obtain ⟨a1, a2, _⟩ := plX_and n d h
  unfold SeqAt.shaped
  rw [a1, Bool.true_and]
  exact decide_eq_true (by omega)
theorem reprD_x {n : Nat} {d : D} (hn : n < 60) (h : plX n d = true) (hb : d.bulk ≤ 300000) : reprD d = some (.str d.shown) := by
  obtain ⟨a1, a2, a3, a4, _⟩ := plX_and n d h
  have hl := PyData.shown_le_bulk 40 (by decide) d a4
  unfold reprD
  rw [a3, plX_shaped hn h, decide_eq_true (show d.shown.length ≤ lineN by show _ ≤ 16000000; omega)]
  rfl
theorem plX_ok {n : Nat} {d : D} (h : plX n d = true) : okS d.shown := (plX_and n d h).2.2.2.2
example : strX "parting" = true := by decide +kernel
end VL
/-! the value layer: what printed derivations with try and raise lean on -/
namespace VL
open PySem
open PySem.Spec
open L2
/-- a caught error's field -/
def exF (n f : Str) : Exn → Option D := fun x => if x.cls = n then x.fs.lookup f else none
def exC (d : D) : Exn → Option D := fun _ => some d
def exN : Exn → Option (List D) := fun _ => some []
def exA (g : Exn → Option D) (gs : Exn → Option (List D)) : Exn → Option (List D) := fun x => (g x).bind fun d => (gs x).map (d :: ·)
def exT (gs : Exn → Option (List D)) : Exn → Option D := fun x => (gs x).bind mkT
def exS (i : Nat) (g : Exn → Option D) : Exn → Option HA := fun x => (g x).map (.set i)
def exR (g : Exn → Option D) : Exn → Option HA := fun x => (g x).map .ret
theorem takesN {X : Cx} {W : Option Wd} {ms : List Nat} {dk : Nat → Kd} {rd : Kd} : TkX X ⟨W, ms, dk, rd, EN⟩ := fun u s' ⟨a, B, sI, pins, σ, H, cls, d, e, I, nb, up, sky, na, os, ag, w⟩ => False.elim w
theorem noSet {o : Option D} {i : Nat} {d : D} {P : Prop} (h : o.map HA.ret = some (.set i d)) : P := by
  cases o <;> cases h
theorem noRet {o : Option D} {j : Nat} {d : D} {P : Prop} (h : o.map (HA.set j) = some (.ret d)) : P := by
  cases o <;> cases h
theorem isSet {o : Option D} {i j : Nat} {d : D} (h : o.map (HA.set j) = some (.set i d)) : i = j := by
  cases o with
  | none => cases h
  | some x => injection h with h; injection h with h1 h2; exact h1.symm
end VL
/-! the value layer: the errors' classes, from the written part -/
namespace VL
open PySem
open PySem.Spec
open L2
/-- a class's first def -/
def inSt : Stmt → Stmt
  | .ClassDef _ _ _ (b :: _) _ _ _ _ _ _ _ => b
  | s => s
/-- what the text says of an __init__(self, fs) -/
structure IniT (st : Stmt) (fs : List Str) : Prop where
  kind : (defScope st).kind = .function
  co : (defScope st).isCoroutine = false
  gen : (defScope st).isGenerator = false
  nd : (("self" : Str) :: fs).Nodup
  loc : ∀ x ∈ ("self" : Str) :: fs, (defScope st).names.lookup x = some .local
  free : ∀ y ∈ (defScope st).names, y.2 = .cell ∨ y.2 = .free → y.1 = "__class__"
  nc : ∀ y ∈ (defScope st).names, y.2 ≠ .cell
  hp : ∃ ar, ((defArgs st).posonlyargs ++ (defArgs st).args).head? = some ar ∧ ar.arg = "self"
  sup : (defScope st).names.lookup ("super" : Str) = some .globalImplicit
  cls : (defScope st).names.lookup ("__class__" : Str) = some .free
  bind : ∀ (qual : Str) (kV doc pm : Value) (an : Option Addr) (cda : Addr) (ct : Value) (cc : Addr) (us : List Value), us.length = (("self" : Str) :: fs).length → bindArgs (fdI "__init__" qual (defArgs st) (defBody st) (defScope st) .none kV doc pm an cda ct cc) ⟨us, []⟩ = pure ((("self" : Str) :: fs).zip us)
section
variable {P : Program} {w : World} {K : PySem.W.Frag} {mg : Str → Option Value} {base : Heap} {h : Heap} {x f g msg qual : Str} {C fI cc cda : Addr} {st : Stmt}
theorem oex_mk {nm q : Str} {N : Addr} {bs bm : List Value} {sn : List Str} {sub : List Value} {ab : Bool} {col : Option Bool} {dd : Option Addr} {k0 k1 k2 k3 k5 : Option Value}
    (o1 : K.lookup C = some (excClassObj nm q C N bs bm true sn sub ab col dd k0 k1 k2 k3 k5 "ValueError.__new__")) (o2 : PySem.HandSPX.refsVE bm = true) (o3 : PySem.W.findIn K (.ref C) "__setattr__" = some (some (.builtin "object.__setattr__")))
    (o4 : PySem.W.subIn K (.ref C) (.type "BaseException") = some true) (o5 : PySem.W.typeIn K (.ref C) = some (.type "type")) (o6 : PySem.W.keepIn K (.ref C) = true) : OexC K C :=
  ⟨⟨_, _, _, _, _, _, _, _, _, _, _, _, _, _, _, o1, o2⟩, o3, o4, o5, o6⟩
theorem sup_mk {fd : FuncData} (X : K.In h) (G : h.Ns mainGlobals mg) (O : OexC K C) {oc oc2 oc3 : Value} {od od2 od3 : Option Addr} {osl osl2 osl3 : Array (Option Value)} {vs : Array Value} {fl : Str} {tf : Tok}
    (i3 : K.lookup fI = some ⟨oc, od, .func fd, osl⟩) (i5 : K.lookup cc = some ⟨oc2, od2, .cell (some (.ref C)), osl2⟩) (i6 : K.lookup cda = some ⟨oc3, od3, .fields vs, osl3⟩) (i7 : vs[2]? = some (.str fl tf)) (i8 : ((P.main.file : Str) == fl) = true)
    (tp : (P.main.scope.names.lookup ("super" : Str)).isSome = false) (ns : PySem.W.nsIn K mainGlobals "super" = some none) (oq : PySem.W.nsIn K cStatics "thirdparty.any" = some none)
    (i9 : PySem.W.ks_superIn K C C "__init__" = some (some (.builtin "ValueError.__init__"))) (i10 : PySem.W.mroIn K C (.type "ValueError") = some true) (i11 : PySem.W.mroIn K C (.ref C) = some true) : SupK P K mg C cc cda fI fd :=
  ⟨O, ⟨_, _, _, i3⟩, ⟨_, _, _, i5⟩, ⟨_, _, _, _, _, _, i6, i7, i8⟩, tp, PySem.W.mg_none_of X G ns, oq, i9, i10, i11⟩
/-- a class of one field -/
theorem erC1 (I : IniT st [f]) {kV dc pm ct : Value} {an : Option Addr} (S : SupK P K mg C cc cda fI (fdI "__init__" qual (defArgs st) (defBody st) (defScope st) .none kV dc pm an cda ct cc)) (hm : mg x = some (.ref C))
    {j} {p0 p1 p2 p3 p4 p5 q1 q2 q3 q4 : Pos} (hb : defBody st = [supSt msg j p0 p1 p2 p3 p4 p5, .Assign [.Attribute (.Name "self" q1) f q3] (.Name f q2) q4])
    (i1 : PySem.W.findIn K (.ref C) "__init__" = some (some (.ref fI))) (i2 : PySem.W.typeIn K (.ref fI) = some (.type "function")) (i4 : PySem.W.codeIn K (.ref cda) qual = true) (hf : PySem.W.findIn K (.ref C) f = some none)
    (hd : (f == ("__debug__" : Str)) = false) (hcd : (f == ("__classdict__" : Str)) = false)
    (hs : ∀ env : Env, swapsWith (.Name f q2) (some (.Attribute (.Name "self" q1) f q3)) q4.line env = pure false)
    (hsw : ∀ (env : Env), swapsWith (.Call (.Attribute (.Call (.Name "super" p0) [] [] p1) "__init__" p2) [.Constant (.str msg) j p3] [] p4) none p5.line env = pure false)
    (he : ∀ env : Env, ∃ pl : Sem Bool, eval (.Call (.Attribute (.Call (.Name "super" p0) [] [] p1) "__init__" p2) [.Constant (.str msg) j p3] [] p4) env = (do
      let ov ← attributeBase (.Call (.Name "super" p0) [] [] p1) "__init__" env (eval (.Call (.Name "super" p0) [] [] p1) env)
      standAt p2.atName
      let (f, first) ← holding [ov] (getMethod ov "__init__" pl)
      callWith p4 f first (backTo p4 (starEach [.Constant (.str msg) j p3] env)) []))
    (hst : ∀ env : Env, starEach [.Constant (.str msg) j p3] env = (false, eval (.Constant (.str msg) j p3) env) :: starEach [] env) (hpl : ∀ env : Env, (backTo p4 (starEach [] env)).any (·.1) = false) :
    ErC P w K mg base x C [f] := by
  refine ⟨S.oex, hm, fI, _, i1, i2, ?_, .all (I.bind qual kV dc pm an cda ct cc)⟩
  obtain ⟨ar, har, har2⟩ := I.hp
  rw [hb] at S ⊢
  refine init_ok (t := tOst K f (tVar 0) (tVar 1)) S i4 I.kind I.co I.gen I.nd I.loc I.free I.nc har har2 rfl I.sup I.cls (sp1 S.oex hf) (fun A outer s H xe => ?_) hsw he hst hpl
  exact rest1 (X := cxI P w K mg base [("self" : Str), f] (fdI "__init__" qual (defArgs st) (supSt msg j p0 p1 p2 p3 p4 p5 :: [.Assign [.Attribute (.Name "self" q1) f q3] (.Name f q2) q4]) (defScope st) .none kV dc pm an cda ct cc) fI A outer s H xe)
    S.oex hf rfl rfl (.inl (I.loc _ List.mem_cons_self)) (.inl (I.loc _ (List.mem_cons_of_mem _ List.mem_cons_self))) hd hcd (hs _)
end
/-- the classes told apart, one by one -/
theorem tells_nil {K : PySem.W.Frag} {mg : Str → Option Value} {cv : Value} {cs : List Str} : Tells K mg [] cv cs := fun y hy => nomatch hy
theorem tells_cons {K : PySem.W.Frag} {mg : Str → Option Value} {errs : List Str} {cv : Value} {cs : List Str} {y : Str} {C : Addr} {b : Bool} (hm : mg y = some (.ref C)) (h : PySem.W.exmOne K (.ref C) cv = some b) (hb : decide (y ∈ cs) = b) (r : Tells K mg errs cv cs) : Tells K mg (y :: errs) cv cs := fun z hz Ca hC => by
  rcases List.mem_cons.mp hz with rfl | hz
  · rw [hm] at hC
    cases hC
    rw [hb]
    exact h
  · exact r z hz Ca hC
end VL
namespace VL
open PySem
open PySem.Spec
open L2
/-! a table of defs, one by one -/
section
variable {P : Program} {w : World} {K : PySem.W.Frag} {mg : Str → Option Value} {base : Heap} {k : Nat} {ks : List Kd} {kr : Kd}
theorem tab_n : ∀ n Fn, ([] : List (Str × (List D → M D))).lookup n = some Fn → FnT P w K mg base k ks kr n Fn := fun n Fn h => nomatch h
theorem tab_c {x : Str} {F : List D → M D} {r : List (Str × (List D → M D))} (hx : ∃ f fd ps, FcX P w K mg base x k f fd ps ks kr F ∧ PySem.W.nsIn K mainGlobals x = some (some (.ref f)))
    (hr : ∀ n Fn, r.lookup n = some Fn → FnT P w K mg base k ks kr n Fn) : ∀ n Fn, ((x, F) :: r).lookup n = some Fn → FnT P w K mg base k ks kr n Fn := fun n Fn h => by
  rw [List.lookup_cons] at h
  cases q : (n == x) with
  | true =>
    rw [q] at h
    cases h
    obtain rfl : n = x := by simpa using q
    exact ⟨hx⟩
  | false => rw [q] at h; exact hr n Fn h
end
end VL
/-! the value layer: stepping where something is raised -/
namespace VL
open PySem
open PySem.Spec
open L2
def Rx {α : Type} (x : M α) (m : MS) (e : Exn) (m' : MS) : Prop := x m = .exc e m'
theorem rx_bd {α β : Type} {x : M α} {f : α → M β} {m m1 : MS} {e : Exn} (h : Rx x m e m1) : Rx (x >>= f) m e m1 := by
  show M.bd x f m = _
  unfold M.bd
  rw [show x m = _ from h]
theorem rx_bd2 {α β : Type} {x : M α} {f : α → M β} {m m1 m2 : MS} {a : α} {e : Exn} (h : Ev x m a m1) (k : Rx (f a) m1 e m2) : Rx (x >>= f) m e m2 := by
  show M.bd x f m = _
  unfold M.bd
  rw [show x m = _ from h]
  exact k
section
variable {en e' : SE} {m m1 m2 m3 : MS} {F G : SE → M D} {A : SE → M (List D)} {T : SE → M Bool} {S S' : SE → M Ctl} {a b d : D} {ds : List D} {x : Exn} {k : Ctl}
theorem r_raise {cls : Str} {fs : List Str} (h : Ev (A en) m ds m1) : Rx (sRaise cls fs A en) m ⟨cls, (fs.zip ds).reverse⟩ m1 := rx_bd2 h rfl
theorem r_sqL (h : Rx (S en) m x m1) : Rx (sq S S' en) m x m1 := rx_bd h
theorem r_sq (h : Ev (S en) m (.nx e') m1) (k : Rx (S' e') m1 x m2) : Rx (sq S S' en) m x m2 := rx_bd2 h k
theorem r_ifT (h : Ev (T en) m true m1) (k : Rx (S en) m1 x m2) : Rx (sIf T S S' en) m x m2 := rx_bd2 h k
theorem r_ifF (h : Ev (T en) m false m1) (k : Rx (S' en) m1 x m2) : Rx (sIf T S S' en) m x m2 := rx_bd2 h k
theorem r_ret (h : Rx (F en) m x m1) : Rx (sRet F en) m x m1 := rx_bd h
theorem r_drop (h : Rx (F en) m x m1) : Rx (sDrop F en) m x m1 := rx_bd h
theorem r_set (i : Nat) (h : Rx (F en) m x m1) : Rx (sSet i F en) m x m1 := rx_bd h
theorem r_aC (h : Rx (F en) m x m1) : Rx (aC F A en) m x m1 := rx_bd h
theorem r_aC2 (h : Ev (F en) m a m1) (k : Rx (A en) m1 x m2) : Rx (aC F A en) m x m2 := rx_bd2 h (rx_bd k)
theorem r_eL {g : List D → Option D} (h : Rx (A en) m x m1) : Rx (eL g A en) m x m1 := rx_bd h
theorem r_e2 {g : D → D → Option D} (h : Rx (F en) m x m1) : Rx (e2 g F G en) m x m1 := rx_bd h
theorem ev_stillX {α : Type} {y : M α} {m m' : MS} (h : Rx y ms0 x m') : Rx (still y) m x m := by
  show still y m = _
  unfold still
  rw [show y ms0 = _ from h]
theorem v_callX {Fn : List D → M D} (h : Ev (A en) m ds m1) (k : Ev (Fn ds) ms0 d m2) : Ev (eCallX Fn A en) m d m1 := ev_bd h (ev_still k)
theorem r_callX {Fn : List D → M D} (h : Ev (A en) m ds m1) (k : Rx (Fn ds) ms0 x m2) : Rx (eCallX Fn A en) m x m1 := rx_bd2 h (ev_stillX k)
theorem r_argsX {Fn : List D → M D} (h : Rx (A en) m x m1) : Rx (eCallX Fn A en) m x m1 := rx_bd h
theorem r_args {Fn : List D → M D} (h : Rx (A en) m x m1) : Rx (eCall Fn A en) m x m1 := rx_bd h
theorem r_run (h : Rx (S en) m x m1) : Rx (runB S en) m x m1 := rx_bd h
theorem r_for {It : SE → M (List D)} {Gt : D → SE → M SE} {B : SE → M Ctl} (h : Ev (It en) m ds m1) (k : Rx (forL Gt B ds en) m1 x m2) : Rx (sFor It Gt B en) m x m2 := rx_bd2 h k
theorem v_callV {tab : List (Str × (List D → M D))} {i : Nat} {Fn : List D → M D} (hi : en[i]? = some (some a)) (ht : tabD tab a = some Fn) (h : Ev (A en) m ds m1) (k : Ev (Fn ds) ms0 d m2) : Ev (eCallV tab i A en) m d m1 :=
  ev_bd (v_var i hi) (ev_bd (ev_lft m ht) (ev_bd h (ev_still k)))
theorem r_callV {tab : List (Str × (List D → M D))} {i : Nat} {Fn : List D → M D} (hi : en[i]? = some (some a)) (ht : tabD tab a = some Fn) (h : Ev (A en) m ds m1) (k : Rx (Fn ds) ms0 x m2) : Rx (eCallV tab i A en) m x m1 :=
  rx_bd2 (v_var i hi) (rx_bd2 (ev_lft m ht) (rx_bd2 h (ev_stillX k)))
theorem v_callL {Fn : List D → M D} {i : Nat} {r : D} (hi : en[i]? = some (some a)) (h : Ev (A en) m ds m1) (k : Ev (Fn (a :: ds)) ms0 d m2) (hs : scaD d = some r) : Ev (eCallL Fn i A en) m r m1 :=
  ev_bd (v_var i hi) (ev_bd h (ev_bd (ev_still (ev_nox k)) (ev_lft m1 hs)))
theorem v_eTy {ty : D → Option Unit} {g : D → D → Option D} {u : Unit} (h : Ev (F en) m a m1) (ht : ty a = some u) (h' : Ev (G en) m1 b m2) (k : g a b = some d) : Ev (eTy ty g F G en) m d m2 :=
  ev_bd h (ev_bd (ev_lft m1 ht) (ev_bd h' (ev_lft m2 k)))
/-! try -/
theorem v_tryN {errs : List Str} {hs : List HD} (h : Ev (S en) m k m1) : Ev (sTry errs hs S en) m k m1 := by
  show sTry errs hs S en m = _
  unfold sTry
  rw [show S en m = _ from h]
theorem v_tryX {errs : List Str} {hs : List HD} (h : Rx (S en) m x m1) (hx : x.cls ∈ errs) (k' : Ev (hRun hs x en) m1 k m2) : Ev (sTry errs hs S en) m k m2 := by
  show sTry errs hs S en m = _
  unfold sTry
  rw [show S en m = _ from h]
  show (if x.cls ∈ errs then hRun hs x en m1 else .bad) = _
  rw [if_pos hx]
  exact k'
theorem v_hR {h : HD} {r : List HD} (hx : x.cls ∈ h.cs) (ha : h.act x = some (.ret d)) : Ev (hRun (h :: r) x en) m (.rt d) m := by
  show hRun (h :: r) x en m = _
  unfold hRun
  rw [if_pos hx, ha]
  rfl
theorem v_hS {h : HD} {r : List HD} {i : Nat} (hx : x.cls ∈ h.cs) (ha : h.act x = some (.set i d)) (he : (wipeO en h.nm).set i (some d) = e') : Ev (hRun (h :: r) x en) m (.nx e') m := by
  show hRun (h :: r) x en m = _
  unfold hRun
  rw [if_pos hx, ha, ← he]
  rfl
theorem v_hN {h : HD} {r : List HD} (hx : x.cls ∉ h.cs) (k' : Ev (hRun r x en) m k m1) : Ev (hRun (h :: r) x en) m k m1 := by
  show hRun (h :: r) x en m = _
  unfold hRun
  rw [if_neg hx]
  exact k'
/-! while -/
theorem v_whD {n : Nat} {B : SE → M Ctl} (h : Ev (T en) m false m1) : Ev (whL T B (n + 1) en) m (.nx en) m1 := ev_bd h rfl
theorem v_whT {n : Nat} {B : SE → M Ctl} (h : Ev (T en) m true m1) (hb : Ev (B en) m1 (.nx e') m2) (r : Ev (whL T B n e') m2 k m3) : Ev (whL T B (n + 1) en) m k m3 := ev_bd h (ev_bd hb r)
end
/-- a loop that may raise -/
theorem v_searchX {Gt : D → SE → M SE} {B : SE → M Ctl} {m : MS} {r : Exn} (I : Nat → SE → Prop) (bad : Nat → Bool) : ∀ (ds : List D) (i : Nat) (en : SE), I i en →
    (∀ j d en, ds[j]? = some d → I (i + j) en → ∃ e1, Ev (Gt d en) m e1 m ∧ ((bad (i + j) = false ∧ ∃ e2, Ev (B e1) m (.nx e2) m ∧ I (i + j + 1) e2) ∨ (bad (i + j) = true ∧ Rx (B e1) m r m))) →
    ((∃ j, j < ds.length ∧ bad (i + j) = true) ∧ Rx (forL Gt B ds en) m r m) ∨ ((∀ j, j < ds.length → bad (i + j) = false) ∧ ∃ e', Ev (forL Gt B ds en) m (.nx e') m ∧ I (i + ds.length) e')
  | [], i, en, h, _ => .inr ⟨fun j hj => absurd hj (Nat.not_lt_zero _), en, rfl, h⟩
  | d :: ds, i, en, h, step => by
    obtain ⟨e1, h1, h2⟩ := step 0 d en rfl h
    rcases h2 with ⟨hb, e2, h2, h3⟩ | ⟨hb, h2⟩
    · have ih := v_searchX I bad ds (i + 1) e2 h3 fun j d en hj hI => by
        have := step (j + 1) d en (by simpa using hj) (by rw [show i + (j + 1) = i + 1 + j by omega]; exact hI)
        rwa [show i + (j + 1) = i + 1 + j by omega] at this
      rcases ih with ⟨⟨j, q1, q2⟩, q3⟩ | ⟨q1, e', q2, q3⟩
      · exact .inl ⟨⟨j + 1, by rw [List.length_cons]; omega, by rw [show i + (j + 1) = i + 1 + j by omega]; exact q2⟩, rx_bd2 h1 (rx_bd2 h2 q3)⟩
      · refine .inr ⟨fun j hj => ?_, e', ev_bd h1 (ev_bd h2 q2), by rw [List.length_cons, show i + (ds.length + 1) = i + 1 + ds.length by omega]; exact q3⟩
        cases j with
        | zero => exact hb
        | succ j =>
          rw [show i + (j + 1) = i + 1 + j by omega]
          exact q1 j (by rw [List.length_cons] at hj; omega)
    · exact .inl ⟨⟨0, by rw [List.length_cons]; omega, hb⟩, rx_bd2 h1 (rx_bd h2)⟩
end VL
namespace K01
/-- labels of doors as two partings glue them -/
structure Glue (p q : List Nat) (L : Nat → Int) : Prop where
  one : ∀ i j, i < p.length → j < p.length → p.getD i 0 = p.getD j 0 → L i = L j
  two : ∀ i j, i < p.length → j < p.length → q.getD i 0 = q.getD j 0 → L i = L j
  low : ∀ f : Nat → Int, (∀ i j, i < p.length → j < p.length → p.getD i 0 = p.getD j 0 → f i = f j) → (∀ i j, i < p.length → j < p.length → q.getD i 0 = q.getD j 0 → f i = f j) → ∀ i j, i < p.length → j < p.length → L i = L j → f i = f j
theorem Glue.same {p q : List Nat} {L L' : Nat → Int} (h : Glue p q L) (h' : Glue p q L') (i j : Nat) (hi : i < p.length) (hj : j < p.length) : L i = L j ↔ L' i = L' j :=
  ⟨h.low L' h'.one h'.two i j hi hj, h'.low L h.one h.two i j hi hj⟩
theorem Glue.swap {p q : List Nat} {L : Nat → Int} (h : Glue p q L) (hl : q.length = p.length) : Glue q p L :=
  ⟨by rw [hl]; exact h.two, by rw [hl]; exact h.one, fun f h1 h2 => by rw [hl] at h1 h2 ⊢; exact h.low f h2 h1⟩
/-! ### the law's hanging together -/
def hungStep (p q : List Nat) (s : Nat) (k : Nat) (ls : List Int) : List Int :=
  ls.map fun l => if l = ls.getD (s + q.getD k 0) 0 then ls.getD (p.getD k 0) 0 else l
structure HI (p q : List Nat) (s t k : Nat) (ls : List Int) : Prop where
  len : ls.length = s + t
  met : ∀ i, i < k → ls.getD (p.getD i 0) 0 = ls.getD (s + q.getD i 0) 0
  low : ∀ g : Nat → Int, (∀ i, i < p.length → g (p.getD i 0) = g (s + q.getD i 0)) → ∀ x y, x < s + t → y < s + t → ls.getD x 0 = ls.getD y 0 → g x = g y
theorem getD_map {f : Int → Int} {ls : List Int} {x : Nat} (h : x < ls.length) : (ls.map f).getD x 0 = f (ls.getD x 0) := by
  simp [List.getD_eq_getElem?_getD, List.getElem?_eq_getElem h]
theorem HI.step {p q : List Nat} {s t k : Nat} {ls : List Int} (h : HI p q s t k ls) (hk : k < p.length) (hp : ∀ i, i < p.length → p.getD i 0 < s) (hq : ∀ i, i < p.length → q.getD i 0 < t) : HI p q s t (k + 1) (hungStep p q s k ls) := by
  have hl := h.len
  have e : ∀ x, x < s + t → (hungStep p q s k ls).getD x 0 = if ls.getD x 0 = ls.getD (s + q.getD k 0) 0 then ls.getD (p.getD k 0) 0 else ls.getD x 0 := fun x hx => by
    unfold hungStep
    rw [getD_map (by omega)]
  refine ⟨by unfold hungStep; rw [List.length_map]; exact hl, fun i hi => ?_, fun g hg x y hx hy hxy => ?_⟩
  · have h1 := hp i (by omega)
    have h2 := hq i (by omega)
    rw [e _ (by omega), e _ (by omega)]
    by_cases c : i = k
    · subst c
      rw [if_pos rfl]
      by_cases d : ls.getD (p.getD i 0) 0 = ls.getD (s + q.getD i 0) 0
      · rw [if_pos d]
      · rw [if_neg d]
    · rw [h.met i (by omega)]
  · rw [e x hx, e y hy] at hxy
    have gk := hg k hk
    have h1 := hp k hk
    have h2 := hq k hk
    by_cases c : ls.getD x 0 = ls.getD (s + q.getD k 0) 0 <;> by_cases d : ls.getD y 0 = ls.getD (s + q.getD k 0) 0
    · exact h.low g hg x y hx hy (c.trans d.symm)
    · rw [if_pos c, if_neg d] at hxy
      rw [h.low g hg x _ hx (by omega) c, ← gk]
      exact h.low g hg _ y (by omega) hy hxy
    · rw [if_neg c, if_pos d] at hxy
      rw [h.low g hg y _ hy (by omega) d, ← gk]
      exact h.low g hg x _ hx (by omega) hxy
    · rw [if_neg c, if_neg d] at hxy
      exact h.low g hg x y hx hy hxy
theorem HI.start {p q : List Nat} {s t : Nat} : HI p q s t 0 ((List.range (s + t)).map fun (i : Nat) => (i : Int)) := by
  have e : ∀ x, x < s + t → ((List.range (s + t)).map fun (i : Nat) => (i : Int)).getD x 0 = (x : Int) := fun x hx => by
    simp [List.getD_eq_getElem?_getD, hx]
  refine ⟨by simp, fun i hi => absurd hi (Nat.not_lt_zero i), fun g _ x y hx hy h => ?_⟩
  rw [e x hx, e y hy] at h
  rw [show x = y by omega]
theorem getD_idxOf {p : List Nat} {b : Nat} (h : b ∈ p) : p.getD (p.idxOf b) 0 = b ∧ p.idxOf b < p.length := by
  have h1 := List.idxOf_lt_length_of_mem h
  refine ⟨?_, h1⟩
  rw [List.getD_eq_getElem?_getD, List.getElem?_eq_getElem h1]
  exact List.getElem_idxOf h1
theorem getD_mem {p : List Nat} {i : Nat} (h : i < p.length) : p.getD i 0 ∈ p := by
  rw [List.getD_eq_getElem?_getD, List.getElem?_eq_getElem h]
  exact List.getElem_mem h
theorem HI.glue {p q : List Nat} {s t : Nat} {ls : List Int} (h : HI p q s t p.length ls) (hl : q.length = p.length) (hp : ∀ i, i < p.length → p.getD i 0 < s) (hq : ∀ i, i < p.length → q.getD i 0 < t) : Glue p q fun i => ls.getD (p.getD i 0) 0 := by
  refine ⟨fun i j hi hj e => by rw [e], fun i j hi hj e => ?_, fun f h1 h2 i j hi hj e => ?_⟩
  · rw [h.met i hi, h.met j hj, e]
  · let g : Nat → Int := fun x => if x < s then f (p.idxOf x) else f (q.idxOf (x - s))
    have gp : ∀ i, i < p.length → g (p.getD i 0) = f i := fun i hi => by
      have a := getD_idxOf (getD_mem hi)
      show (if p.getD i 0 < s then f (p.idxOf (p.getD i 0)) else _) = _
      rw [if_pos (hp i hi)]
      exact h1 _ _ a.2 hi a.1
    have gq : ∀ i, i < p.length → g (s + q.getD i 0) = f i := fun i hi => by
      have a := getD_idxOf (getD_mem (p := q) (i := i) (by omega))
      show (if s + q.getD i 0 < s then _ else f (q.idxOf (s + q.getD i 0 - s))) = _
      rw [if_neg (by omega), show s + q.getD i 0 - s = q.getD i 0 by omega]
      exact h2 _ _ (by omega) hi a.1
    have k1 := hp i hi
    have k2 := hp j hj
    have := h.low g (fun i hi => by rw [gp i hi, gq i hi]) _ _ (by omega) (by omega) e
    rwa [gp i hi, gp j hj] at this
/-! ### the program's joined labels -/
def metOf (q : List Nat) (k : Nat) (ls : List Int) : List Int := ((ls.zip q).filter fun x => decide (x.2 = k)).map (·.1)
def joinStep (q : List Nat) (k : Nat) (ls : List Int) : List Int :=
  ls.map fun l => if l ∈ metOf q k ls then (metOf q k ls).headD 0 else l
theorem mem_metOf {q : List Nat} {k : Nat} {ls : List Int} {l : Int} (hl : ls.length = q.length) : l ∈ metOf q k ls ↔ ∃ i, i < q.length ∧ q.getD i 0 = k ∧ ls.getD i 0 = l := by
  unfold metOf
  constructor
  · intro h
    obtain ⟨x, h1, rfl⟩ := List.mem_map.mp h
    obtain ⟨h2, h3⟩ := List.mem_filter.mp h1
    obtain ⟨i, hi, e⟩ := List.getElem_of_mem h2
    rw [List.length_zip] at hi
    rw [List.getElem_zip] at e
    subst e
    refine ⟨i, by omega, ?_, ?_⟩
    · rw [List.getD_eq_getElem?_getD, List.getElem?_eq_getElem (by omega)]
      exact of_decide_eq_true h3
    · rw [List.getD_eq_getElem?_getD, List.getElem?_eq_getElem (by omega)]
      rfl
  · rintro ⟨i, hi, h1, h2⟩
    refine List.mem_map.mpr ⟨(l, k), List.mem_filter.mpr ⟨?_, decide_eq_true rfl⟩, rfl⟩
    rw [List.getD_eq_getElem?_getD, List.getElem?_eq_getElem (by omega)] at h1 h2
    have hz : i < (ls.zip q).length := by rw [List.length_zip]; omega
    have : (ls.zip q)[i] = (l, k) := by
      rw [List.getElem_zip]
      exact Prod.ext h2 h1
    rw [← this]
    exact List.getElem_mem hz
structure JI (p q : List Nat) (k : Nat) (ls : List Int) : Prop where
  len : ls.length = p.length
  one : ∀ i j, i < p.length → j < p.length → p.getD i 0 = p.getD j 0 → ls.getD i 0 = ls.getD j 0
  two : ∀ i j, i < p.length → j < p.length → q.getD i 0 = q.getD j 0 → q.getD i 0 < k → ls.getD i 0 = ls.getD j 0
  low : ∀ f : Nat → Int, (∀ i j, i < p.length → j < p.length → p.getD i 0 = p.getD j 0 → f i = f j) → (∀ i j, i < p.length → j < p.length → q.getD i 0 = q.getD j 0 → f i = f j) → ∀ i j, i < p.length → j < p.length → ls.getD i 0 = ls.getD j 0 → f i = f j
theorem JI.start {p q : List Nat} : JI p q 0 (p.map fun (n : Nat) => (n : Int)) := by
  have e : ∀ i, i < p.length → (p.map fun (n : Nat) => (n : Int)).getD i 0 = (p.getD i 0 : Nat) := fun i hi => by
    simp [List.getD_eq_getElem?_getD, hi]
  refine ⟨List.length_map _, fun i j hi hj h => by rw [e i hi, e j hj, h], fun i j _ _ _ h => absurd h (Nat.not_lt_zero _), fun f h1 _ i j hi hj h => h1 i j hi hj ?_⟩
  rw [e i hi, e j hj] at h
  omega
theorem headD_mem {l : List Int} (h : l ≠ []) : l.headD 0 ∈ l := by
  cases l with
  | nil => exact absurd rfl h
  | cons a l => exact List.mem_cons_self
theorem JI.step {p q : List Nat} {k : Nat} {ls : List Int} (h : JI p q k ls) (hl : q.length = p.length) : JI p q (k + 1) (joinStep q k ls) := by
  have hle := h.len
  have e : ∀ x, x < p.length → (joinStep q k ls).getD x 0 = if ls.getD x 0 ∈ metOf q k ls then (metOf q k ls).headD 0 else ls.getD x 0 := fun x hx => by
    unfold joinStep
    rw [getD_map (by omega)]
  have mm : ∀ l, l ∈ metOf q k ls ↔ ∃ i, i < q.length ∧ q.getD i 0 = k ∧ ls.getD i 0 = l := fun l => mem_metOf (by omega)
  refine ⟨by unfold joinStep; rw [List.length_map]; exact hle, fun i j hi hj a => ?_, fun i j hi hj a b => ?_, fun f h1 h2 i j hi hj a => ?_⟩
  · rw [e i hi, e j hj, h.one i j hi hj a]
  · by_cases c : q.getD i 0 = k
    · rw [e i hi, e j hj, if_pos ((mm _).mpr ⟨i, by omega, c, rfl⟩), if_pos ((mm _).mpr ⟨j, by omega, a ▸ c, rfl⟩)]
    · rw [e i hi, e j hj, h.two i j hi hj a (by omega)]
  · rw [e i hi, e j hj] at a
    have key : ∀ x, x < p.length → ls.getD x 0 ∈ metOf q k ls → ∀ y, y < p.length → ls.getD y 0 ∈ metOf q k ls → f x = f y := fun x hx hmx y hy hmy => by
      obtain ⟨u, u1, u2, u3⟩ := (mm _).mp hmx
      obtain ⟨v, v1, v2, v3⟩ := (mm _).mp hmy
      rw [h.low f h1 h2 x u hx (by omega) u3.symm, h.low f h1 h2 y v hy (by omega) v3.symm]
      exact h2 u v (by omega) (by omega) (u2.trans v2.symm)
    by_cases c : ls.getD i 0 ∈ metOf q k ls <;> by_cases d : ls.getD j 0 ∈ metOf q k ls
    · exact key i hi c j hj d
    · rw [if_pos c, if_neg d] at a
      exact absurd (a ▸ headD_mem (fun z => by rw [z] at c; cases c)) d
    · rw [if_neg c, if_pos d] at a
      exact absurd (a ▸ headD_mem (fun z => by rw [z] at d; cases d)) c
    · rw [if_neg c, if_neg d] at a
      exact h.low f h1 h2 i j hi hj a
theorem JI.glue {p q : List Nat} {k : Nat} {ls : List Int} (h : JI p q k ls) (hq : ∀ i, i < p.length → q.getD i 0 < k) : Glue p q fun i => ls.getD i 0 :=
  ⟨h.one, fun i j hi hj e => h.two i j hi hj e (hq i hi), h.low⟩
end K01
namespace K15
open PySem L2 VL
def top (i : Nat) : Stmt := PySem.Challenge.pw_fittingdoors_k15_whole_turned.main.body.getD i (.Pass ⟨0, 0, 0, 0⟩)
abbrev fn__law_draw : List D → M D := fnDraw
def errs : List Str := ["BadParting", "BadLot", "BadNumber"]
abbrev s_is_whole : Stmt := top 6
def N_is_whole : List Str := ["value"]
def dk_is_whole : Nat → Kd
  | _ => .dat
def S_is_whole : SE → M Ctl := (sRet (eAnd (e1 (isT "int") (eVar 0)) (e1 notD (e1 (isT "bool") (eVar 0)))))
def fn_is_whole : List D → M D := fun ds => runB S_is_whole (env0 1 ds)
abbrev s_is_within : Stmt := top 7
def N_is_within : List Str := ["value", "low", "high"]
def dk_is_within : Nat → Kd
  | _ => .dat
def S_is_within : SE → M Ctl := (sRet (eAnd (eCall fn_is_whole (aC (eVar 0) aN)) (eB (e3c leD leD (eVar 1) (eVar 0) (eVar 2)))))
def fn_is_within : List D → M D := fun ds => runB S_is_within (env0 3 ds)
abbrev s_need_number : Stmt := top 8
def N_need_number : List Str := ["value", "low", "high"]
def dk_need_number : Nat → Kd
  | _ => .dat
def S_need_number : SE → M Ctl := (sq (sIf (tNot1 (tV asB (eCall fn_is_within (aC (eVar 0) (aC (eVar 1) (aC (eVar 2) aN)))))) (sRaise "BadNumber" ["value"] (aC (eVar 0) aN)) sNx) (sRet (eVar 0)))
def fn_need_number : List D → M D := fun ds => runB S_need_number (env0 3 ds)
abbrev s_need_parting : Stmt := top 11
def N_need_parting : List Str := ["parting", "many", "place", "block"]
def dk_need_parting : Nat → Kd
  | _ => .dat
def S_need_parting : SE → M Ctl := (sq (sIf (tOr2 (tNot1 (tV truD (e1 (isT "tuple") (eVar 0)))) (tNot1 (e3c leD leD (eC (.int 1)) (eL (one1 lenD) (aC (eVar 0) aN)) (eC (.int 60))))) (sRaise "BadParting" ["place"] (aC (eC .none) aN)) sNx) (sq (sSet 1 (eC (.int 0))) (sq (sFor (iA (enB false) (aC (eVar 0) aN)) (gTp 2 (gC (gNm 2) (gC (gNm 3) gN0))) (sq (sIf (tNot1 (tV asB (eCall fn_is_within (aC (eVar 3) (aC (eC (.int 0)) (aC (eVar 1) aN)))))) (sRaise "BadParting" ["place"] (aC (eVar 2) aN)) sNx) (sSet 1 (eL (two2 max2D) (aC (eVar 1) (aC (e2 addD (eVar 3) (eC (.int 1))) aN)))))) (sRet (eVar 0)))))
def fn_need_parting : List D → M D := fun ds => runB S_need_parting (env0 4 ds)
abbrev s_is_parting : Stmt := top 12
def N_is_parting : List Str := ["value"]
def dk_is_parting : Nat → Kd
  | _ => .dat
def S_is_parting : SE → M Ctl := (sq (sTry errs [⟨["BadParting"], none, (exR (exC (.bool false)))⟩] (sDrop (eCallX fn_need_parting (aC (eVar 0) aN)))) (sRet (eC (.bool true))))
def fn_is_parting : List D → M D := fun ds => runB S_is_parting (env0 1 ds)
abbrev s_all_of : Stmt := top 13
def N_all_of : List Str := ["number", "rows", "door", "row", "block"]
def dk_all_of : Nat → Kd
  | _ => .dat
def S_all_of : SE → M Ctl := (sq (sSet 1 (eL mkL (aC (eL mkT (aC (eC (.int 0)) aN)) aN))) (sq (sFor (iA rng2 (aC (eC (.int 1)) (aC (eVar 0) aN))) (gNm 2) (sSetO 1 (lc2F (iL seqL (eVar 1)) (gNm 3) tYs (iA rng1 (aC (e2 addD (eL (one1 maxV) (aC (eVar 3) aN)) (eC (.int 2))) aN)) (gNm 4) tYs (e2 addD (eVar 3) (eL mkT (aC (eVar 4) aN))) [3, 4] [4]))) (sRet (eVar 1))))
def fn_all_of : List D → M D := fun ds => runB S_all_of (env0 5 ds)
abbrev s_lot_fault : Stmt := top 16
def N_lot_fault : List Str := ["lot", "number", "before", "parting"]
def dk_lot_fault : Nat → Kd
  | _ => .dat
def S_lot_fault : SE → M Ctl := (sq (sIf (tNot1 (tV truD (e1 (isT "tuple") (eVar 0)))) (sRet (eC (.str "tuple"))) sNx) (sq (sSet 2 (eL mkT aN)) (sq (sFor (iL seqT (eVar 0)) (gNm 3) (sq (sIf (tOr2 (tNot1 (tV asB (eCall fn_is_parting (aC (eVar 3) aN)))) (tV asB (e2 neD (eL (one1 lenD) (aC (eVar 3) aN)) (eVar 1)))) (sRet (eC (.str "parting"))) sNx) (sq (sIf (tV asB (e2 leTD (eVar 3) (eVar 2))) (sRet (eC (.str "order"))) sNx) (sSet 2 (eVar 3))))) (sRet (eC .none)))))
def fn_lot_fault : List D → M D := fun ds => runB S_lot_fault (env0 4 ds)
abbrev s_need_lot : Stmt := top 17
def N_need_lot : List Str := ["lot", "number", "fault"]
def dk_need_lot : Nat → Kd
  | _ => .dat
def S_need_lot : SE → M Ctl := (sq (sDrop (eCallX fn_need_number (aC (eVar 1) (aC (eC (.int 1)) (aC (eC (.int 6)) aN))))) (sq (sSet 2 (eCall fn_lot_fault (aC (eVar 0) (aC (eVar 1) aN)))) (sq (sIf (tV asB (e2 isNN (eVar 2) (eC .none))) (sRaise "BadLot" ["word"] (aC (eVar 2) aN)) sNx) (sRet (eVar 0)))))
def fn_need_lot : List D → M D := fun ds => runB S_need_lot (env0 3 ds)
abbrev s_joined_labels : Stmt := top 19
def N_joined_labels : List Str := ["parting", "other", "labels", "block", "met", "label", "there"]
def dk_joined_labels : Nat → Kd
  | _ => .dat
def S_joined_labels : SE → M Ctl := (sq (sSet 2 (eL (one1 listD) (aC (eVar 0) aN))) (sq (sFor (iA rng1 (aC (e2 addD (eL (one1 maxV) (aC (eVar 1) aN)) (eC (.int 1))) aN)) (gNm 3) (sq (sSet 4 (lcF (iA (zpB true false) (aC (eVar 2) (aC (eVar 1) aN))) (gTp 2 (gC (gNm 5) (gC (gNm 6) gN0))) (tV asB (e2 eqD (eVar 6) (eVar 3))) (eVar 5) [5, 6])) (sSetO 2 (lcF (iL seqL (eVar 2)) (gNm 5) tYs (eIf (tV asB (e2 inD (eVar 5) (eVar 4))) (e2 ixD (eVar 4) (eC (.int 0))) (eVar 5)) [5])))) (sRet (eVar 2))))
def fn_joined_labels : List D → M D := fun ds => runB S_joined_labels (env0 7 ds)
abbrev s_blocks_hang : Stmt := top 21
def N_blocks_hang : List Str := ["parting", "other"]
def dk_blocks_hang : Nat → Kd
  | _ => .dat
def S_blocks_hang : SE → M Ctl := (sRet (e1 lenSetD (eCall fn_joined_labels (aC (eVar 0) (aC (eVar 1) aN)))))
def fn_blocks_hang : List D → M D := fun ds => runB S_blocks_hang (env0 2 ds)
abbrev s_has_tree : Stmt := top 22
def N_has_tree : List Str := ["parting", "other"]
def dk_has_tree : Nat → Kd
  | _ => .dat
def S_has_tree : SE → M Ctl := (sRet (eAnd (e2 eqD (e2 addD (e2 addD (eL (one1 maxV) (aC (eVar 0) aN)) (eL (one1 maxV) (aC (eVar 1) aN))) (eC (.int 1))) (eL (one1 lenD) (aC (eVar 0) aN))) (e2 eqD (eCall fn_blocks_hang (aC (eVar 0) (aC (eVar 1) aN))) (eC (.int 1)))))
def fn_has_tree : List D → M D := fun ds => runB S_has_tree (env0 2 ds)
abbrev s_turned_of : Stmt := top 24
def N_turned_of : List Str := ["lot", "number", "left", "other", "parting"]
def dk_turned_of : Nat → Kd
  | _ => .dat
def S_turned_of : SE → M Ctl := (sq (sSet 2 (eCall fn_all_of (aC (eVar 1) aN))) (sq (sFor (iL seqT (eVar 0)) (gNm 3) (sSetO 2 (lcF (iL seqL (eVar 2)) (gNm 4) (tV asB (eCall fn_has_tree (aC (eVar 4) (aC (eVar 3) aN)))) (eVar 4) [4]))) (sRet (eL (one1 tupD) (aC (eVar 2) aN)))))
def fn_turned_of : List D → M D := fun ds => runB S_turned_of (env0 5 ds)
abbrev s_closed_of : Stmt := top 25
def N_closed_of : List Str := ["lot", "number"]
def dk_closed_of : Nat → Kd
  | _ => .dat
def S_closed_of : SE → M Ctl := (sRet (eCall fn_turned_of (aC (eCall fn_turned_of (aC (eVar 0) (aC (eVar 1) aN))) (aC (eVar 1) aN))))
def fn_closed_of : List D → M D := fun ds => runB S_closed_of (env0 2 ds)
abbrev s_turned : Stmt := top 26
def N_turned : List Str := ["lot", "number"]
def dk_turned : Nat → Kd
  | _ => .dat
def S_turned : SE → M Ctl := (sRet (eCall fn_turned_of (aC (eCallX fn_need_lot (aC (eVar 0) (aC (eVar 1) aN))) (aC (eVar 1) aN))))
def fn_turned : List D → M D := fun ds => runB S_turned (env0 2 ds)
abbrev s_closed : Stmt := top 27
def N_closed : List Str := ["lot", "number"]
def dk_closed : Nat → Kd
  | _ => .dat
def S_closed : SE → M Ctl := (sRet (eCall fn_closed_of (aC (eCallX fn_need_lot (aC (eVar 0) (aC (eVar 1) aN))) (aC (eVar 1) aN))))
def fn_closed : List D → M D := fun ds => runB S_closed (env0 2 ds)
abbrev s_is_closed : Stmt := top 28
def N_is_closed : List Str := ["lot", "number"]
def dk_is_closed : Nat → Kd
  | _ => .dat
def S_is_closed : SE → M Ctl := (sRet (e2 eqD (eCall fn_closed_of (aC (eCallX fn_need_lot (aC (eVar 0) (aC (eVar 1) aN))) (aC (eVar 1) aN))) (eVar 0)))
def fn_is_closed : List D → M D := fun ds => runB S_is_closed (env0 2 ds)
abbrev s__law_mixed : Stmt := top 30
def N__law_mixed : List Str := ["_law_cell", "_law_n", "_law_blend"]
def dk__law_mixed : Nat → Kd
  | _ => .dat
def S__law_mixed : SE → M Ctl := (sq (sSet 2 (e2 addD (e2 addD (e2 modD (eL (one1 intD) (aC (e2 mulD (e2 mulD (eVar 0) (e2 addD (eC (.int 1)) (e2 mulD (eC (.int 2)) (eVar 1)))) (eC (.int 48271))) aN)) (eC (.int 2147483647))) (e2 mulD (e2 mulD (eC (.int 7919)) (eVar 1)) (eVar 1))) (e2 mulD (eC (.int 104729)) (eVar 1)))) (sRet (e2 fdivD (e2 modD (eL (one1 intD) (aC (e2 mulD (eVar 2) (eC (.int 69621))) aN)) (eC (.int 2147483629))) (eC (.int 7)))))
def fn__law_mixed : List D → M D := fun ds => runB S__law_mixed (env0 3 ds)
abbrev s__law_folded : Stmt := top 31
def N__law_folded : List Str := ["_law_script", "_law_found", "_law_n", "_law_cell"]
def dk__law_folded : Nat → Kd
  | _ => .dat
def S__law_folded : SE → M Ctl := (sq (sSetO 1 (lcF (iA rng1 (aC (eC (.int 64)) aN)) (gNm 2) tYs (e2 addD (eC (.int 17)) (eVar 2)) [2])) (sq (sFor (iA (enB true) (aC (eVar 0) aN)) (gTp 2 (gC (gNm 2) (gC (gNm 3) gN0))) (sSetIx 1 (e2 modD (eL (one1 intD) (aC (eVar 2) aN)) (eC (.int 64))) (e2 modD (eL (one1 intD) (aC (e2 addD (e2 mulD (e2 ixD (eVar 1) (e2 modD (eL (one1 intD) (aC (eVar 2) aN)) (eC (.int 64)))) (eC (.int 48271))) (eVar 3)) aN)) (eC (.int 2147483647))))) (sq (sFor (iA rng2 (aC (eC (.int 1)) (aC (eC (.int 64)) aN))) (gNm 2) (sSetIx 1 (eVar 2) (e2 modD (eL (one1 intD) (aC (e2 addD (e2 ixD (eVar 1) (eVar 2)) (e2 mulD (e2 ixD (eVar 1) (e2 subD (eVar 2) (eC (.int 1)))) (eC (.int 16807)))) aN)) (eC (.int 2147483647))))) (sRet (eVar 1)))))
def fn__law_folded : List D → M D := fun ds => runB S__law_folded (env0 4 ds)
abbrev s__law_like : Stmt := top 34
def N__law_like : List Str := ["_law_got", "_law_due"]
def dk__law_like : Nat → Kd
  | _ => .dat
def S__law_like : SE → M Ctl := (sRet (e2 eqD (eL (one1 reprD) (aC (eVar 0) aN)) (eL (one1 reprD) (aC (eVar 1) aN))))
def fn__law_like : List D → M D := fun ds => runB S__law_like (env0 2 ds)
abbrev s__law_of : Stmt := top 35
def N__law_of : List Str := ["_law_m", "_law_some"]
def dk__law_of : Nat → Kd
  | _ => .dat
def S__law_of : SE → M Ctl := (sRet (e2 ixD (eVar 1) (eCallM fn__law_draw (aC (eL (one1 lenD) (aC (eVar 1) aN)) aN))))
def fn__law_of : List D → M D := fun ds => runB S__law_of (envM 2 ds)
abbrev s__law_numbered : Stmt := top 36
def N__law_numbered : List Str := ["_law_labels", "_law_label", "_law_spots", "_law_found"]
def dk__law_numbered : Nat → Kd
  | 2 => .dic
  | _ => .dat
def S__law_numbered : SE → M Ctl := (sq (sParO 2 3 (eC (.dict [])) (eL mkL aN)) (sq (sFor (iL seqL (eVar 0)) (gNm 1) (sq (sIf (eDin true hasK 2 (eVar 1)) (sDput putKq 2 (eVar 1) (eDlen 2)) sNx) (sMeth 3 appD (eDgK 2 (eVar 1))))) (sRet (eL (one1 tupD) (aC (eVar 3) aN)))))
def fn__law_numbered : List D → M D := fun ds => runB S__law_numbered (env0 4 ds)
abbrev s__law_partings : Stmt := top 37
def N__law_partings : List Str := ["_law_many", "_law_rows", "_law_turn", "_law_longer", "_law_row", "_law_block"]
def dk__law_partings : Nat → Kd
  | _ => .dat
def S__law_partings : SE → M Ctl := (sq (sSet 1 (eL mkL (aC (eL mkT (aC (eC (.int 0)) aN)) aN))) (sq (sFor (iA rng1 (aC (e2 subD (eVar 0) (eC (.int 1))) aN)) (gNm 2) (sq (sSetO 3 (eL mkL aN)) (sq (sFor (iL seqL (eVar 1)) (gNm 4) (sMeth 3 extD (lcF (iA rng1 (aC (e2 addD (eL (one1 maxV) (aC (eVar 4) aN)) (eC (.int 2))) aN)) (gNm 5) tYs (e2 addD (eVar 4) (eL mkT (aC (eVar 5) aN))) [5]))) (sSet 1 (eVar 3))))) (sRet (eVar 1))))
def fn__law_partings : List D → M D := fun ds => runB S__law_partings (env0 6 ds)
abbrev s__law_parting : Stmt := top 38
def N__law_parting : List Str := ["_law_m", "_law_many", "_law_door"]
def dk__law_parting : Nat → Kd
  | _ => .dat
def S__law_parting : SE → M Ctl := (sRet (eCall fn__law_numbered (aC (lcF (iA rng1 (aC (eVar 1) aN)) (gNm 2) tYs (eCallM fn__law_draw (aC (eVar 1) aN)) [2]) aN)))
def fn__law_parting : List D → M D := fun ds => runB S__law_parting (envM 3 ds)
abbrev s__law_root : Stmt := top 39
def N__law_root : List Str := ["_law_roots", "_law_thing"]
def dk__law_root : Nat → Kd
  | _ => .dat
def S__law_root : SE → M Ctl := (sq (sWhile 64 (tV asB (e2 neD (e2 ixD (eVar 0) (eVar 1)) (eVar 1))) (sSet 1 (e2 ixD (eVar 0) (eVar 1)))) (sRet (eVar 1)))
def fn__law_root : List D → M D := fun ds => runB S__law_root (env0 2 ds)
abbrev s__law_meet : Stmt := top 40
def N__law_meet : List Str := ["_law_one", "_law_two", "_law_roots", "_law_door", "_law_many", "_law_more", "_law_here", "_law_there"]
def dk__law_meet : Nat → Kd
  | _ => .dat
def S__law_meet : SE → M Ctl := (sq (sPar 4 5 (aC (e2 addD (eL (one1 maxV) (aC (eVar 0) aN)) (eC (.int 1))) (aC (e2 addD (eL (one1 maxV) (aC (eVar 1) aN)) (eC (.int 1))) aN))) (sq (sIf (tV asB (e2 neD (e2 addD (eVar 4) (eVar 5)) (e2 addD (eL (one1 lenD) (aC (eVar 0) aN)) (eC (.int 1))))) (sRet (eC (.bool false))) sNx) (sq (sSetO 2 (e1 lrngD (e2 addD (eVar 4) (eVar 5)))) (sq (sFor (iA rng1 (aC (eL (one1 lenD) (aC (eVar 0) aN)) aN)) (gNm 3) (sq (sPar 6 7 (aC (eCallL fn__law_root 2 (aC (e2 ixD (eVar 0) (eVar 3)) aN)) (aC (eCallL fn__law_root 2 (aC (e2 addD (eVar 4) (e2 ixD (eVar 1) (eVar 3))) aN)) aN))) (sq (sIf (tV asB (e2 eqD (eVar 6) (eVar 7))) (sRet (eC (.bool false))) sNx) (sSetIx 2 (eVar 6) (eVar 7))))) (sRet (eC (.bool true)))))))
def fn__law_meet : List D → M D := fun ds => runB S__law_meet (env0 8 ds)
abbrev s__law_met_all : Stmt := top 41
def N__law_met_all : List Str := ["_law_lot", "_law_many", "_law_left", "_law_one", "_law_two"]
def dk__law_met_all : Nat → Kd
  | _ => .dat
def S__law_met_all : SE → M Ctl := (sq (sSet 2 (eCall fn__law_partings (aC (eVar 1) aN))) (sq (sFor (iL seqT (eVar 0)) (gNm 3) (sSetO 2 (lcF (iL seqL (eVar 2)) (gNm 4) (tV asB (eCall fn__law_meet (aC (eVar 3) (aC (eVar 4) aN)))) (eVar 4) [4]))) (sRet (eL (one1 tupD) (aC (eVar 2) aN)))))
def fn__law_met_all : List D → M D := fun ds => runB S__law_met_all (env0 5 ds)
def dk__law_met_allL : Nat → Kd
  | _ => .dat
def S__law_met_allL : SE → M Ctl := (sq (sSet 2 (eCall fn__law_partings (aC (eVar 1) aN))) (sq (sFor (iL seqL (eVar 0)) (gNm 3) (sSetO 2 (lcF (iL seqL (eVar 2)) (gNm 4) (tV asB (eCall fn__law_meet (aC (eVar 3) (aC (eVar 4) aN)))) (eVar 4) [4]))) (sRet (eL (one1 tupD) (aC (eVar 2) aN)))))
def fn__law_met_allL : List D → M D := fun ds => runB S__law_met_allL (env0 5 ds)
abbrev s__law_lot_from : Stmt := top 42
def N__law_lot_from : List Str := ["_law_rows", "_law_n", "_law_row"]
def dk__law_lot_from : Nat → Kd
  | _ => .dat
def S__law_lot_from : SE → M Ctl := (sRet (eL (one1 fun d => (seqL d).map .tuple) (aC (eL (one1 sortTD) (aC (lcF (iA (enB true) (aC (eVar 0) aN)) (gTp 2 (gC (gNm 1) (gC (gNm 2) gN0))) (tV asB (e2 notInD (eVar 2) (slD (eVar 0) pN (pS (eVar 1))))) (eVar 2) [1, 2]) aN)) aN)))
def fn__law_lot_from : List D → M D := fun ds => runB S__law_lot_from (env0 3 ds)
abbrev s__law_some_lot : Stmt := top 43
def N__law_some_lot : List Str := ["_law_m", "_law_many", "_law_near", "_law_kind", "_law_one", "_law_turn"]
def dk__law_some_lot : Nat → Kd
  | _ => .dat
def S__law_some_lot : SE → M Ctl := (sq (sPar 3 4 (aC (eCallM fn__law_draw (aC (eC (.int 8)) aN)) (aC (eCallM fn__law_parting (aC (eVar 1) aN)) aN))) (sq (sIf (tV asB (e2 eqD (eVar 3) (eC (.int 0)))) (sRet (eL mkT aN)) sNx) (sq (sIf (tAnd2 (tV asB (e2 eqD (eVar 3) (eC (.int 1)))) (tV asB (e2 ltD (eVar 1) (eC (.int 4))))) (sRet (eL (one1 fun d => (seqL d).map .tuple) (aC (eCall fn__law_partings (aC (eVar 1) aN)) aN))) sNx) (sq (sIf (tV asB (e2 ltD (eVar 3) (eC (.int 4)))) (sRet (eCall fn__law_lot_from (aC (lcF (iA rng1 (aC (e2 addD (eC (.int 1)) (eCallM fn__law_draw (aC (eC (.int 4)) aN))) aN)) (gNm 5) tYs (eCallM fn__law_parting (aC (eVar 1) aN)) [5]) aN))) sNx) (sq (sSet 2 (eCall fn__law_met_allL (aC (eL mkL (aC (eVar 4) aN)) (aC (eVar 1) aN)))) (sRet (eCall fn__law_lot_from (aC (lcF (iA rng1 (aC (e2 addD (eC (.int 1)) (eCallM fn__law_draw (aC (eC (.int 5)) aN))) aN)) (gNm 5) tYs (eCallM fn__law_of (aC (eVar 2) aN)) [5]) aN))))))))
def fn__law_some_lot : List D → M D := fun ds => runB S__law_some_lot (envM 6 ds)
abbrev s__law_bad_lot : Stmt := top 44
def N__law_bad_lot : List Str := ["_law_m", "_law_lot", "_law_many", "_law_one", "_law_at", "_law_kind", "_law_place", "_law_bad"]
def dk__law_bad_lot : Nat → Kd
  | 1 => .nd
  | _ => .dat
def S__law_bad_lot : SE → M Ctl := (sq (sPar 5 6 (aC (eCallM fn__law_draw (aC (eC (.int 6)) aN)) (aC (eCallM fn__law_draw (aC (e2 addD (eL (one1 lenD) (aC (eVar 1) aN)) (eC (.int 1))) aN)) aN))) (sq (sIf (tV asB (e2 eqD (eVar 5) (eC (.int 0)))) (sRet (eL mkT (aC (eCallM fn__law_of (aC (eL mkL (aC (eC .none) (aC (eL (one1 listD) (aC (eVar 1) aN)) (aC (eC (.int 3)) (aC (eC (.str "()")) (aC (eC (.dict [])) aN)))))) aN)) (aC (eC (.str "tuple")) aN)))) sNx) (sq (sIf (tOr2 (tV asB (e2 ltD (eVar 5) (eC (.int 4)))) (tV asB (e2 eqD (eVar 1) (eL mkT aN)))) (sq (sSet 3 (eCallM fn__law_parting (aC (eVar 2) aN))) (sq (sSet 7 (eCallM fn__law_of (aC (eL mkL (aC (eC .none) (aC (eL (one1 listD) (aC (eVar 3) aN)) (aC (e2 addD (eVar 3) (eL mkT (aC (eC (.int 0)) aN))) (aC (slD (eVar 3) (pS (eC (.int 1))) pN) (aC (e2 addD (eL mkT (aC (eC (.int 1)) aN)) (slD (eVar 3) (pS (eC (.int 1))) pN)) (aC (e2 addD (slD (eVar 3) pN (pS (e1 negD (eC (.int 1))))) (eL mkT (aC (eVar 2) aN))) (aC (e2 addD (eL mkT (aC (eC (.bool false)) aN)) (slD (eVar 3) (pS (eC (.int 1))) pN)) (aC (eC (.int 0)) aN))))))))) aN))) (sRet (eL mkT (aC (e2 addD (e2 addD (slD (eVar 1) pN (pS (eVar 6))) (eL mkT (aC (eVar 7) aN))) (slD (eVar 1) (pS (eVar 6)) pN)) (aC (eC (.str "parting")) aN)))))) sNx) (sq (sSet 3 (eCallM fn__law_of (aC (eVar 1) aN))) (sq (sSet 4 (e2 idxDD (eVar 1) (eVar 3))) (sRet (eL mkT (aC (eIf (tV asB (e2 eqD (eVar 5) (eC (.int 4)))) (e2 addD (e2 addD (slD (eVar 1) pN (pS (e2 addD (eVar 4) (eC (.int 1))))) (eL mkT (aC (eVar 3) aN))) (slD (eVar 1) (pS (e2 addD (eVar 4) (eC (.int 1)))) pN)) (e2 addD (eVar 1) (eL mkT (aC (e2 ixD (eVar 1) (eC (.int 0))) aN)))) (aC (eC (.str "order")) aN)))))))))
def fn__law_bad_lot : List D → M D := fun ds => runB S__law_bad_lot (envM 8 ds)
abbrev s__law_asked : Stmt := top 45
def N__law_asked : List Str := ["_law_which", "_law_lot", "_law_many", "_law_call", "_law_told", "e"]
def dk__law_asked : Nat → Kd
  | _ => .dat
def tab__law_asked : List (Str × (List D → M D)) := [("need_lot", fn_need_lot), ("turned", fn_turned), ("closed", fn_closed), ("is_closed", fn_is_closed)]
def S__law_asked : SE → M Ctl := (sq (sSet 3 (e2 ixD (eL mkL (aC (eC (fnD "need_lot")) (aC (eC (fnD "turned")) (aC (eC (fnD "closed")) (aC (eC (fnD "is_closed")) aN))))) (eVar 0))) (sq (sSet 4 (eL mkT aN)) (sq (sTry errs [⟨["BadLot"], some 5, (exS 4 (exT (exA (exC (.str "lot")) (exA (exF "BadLot" "word") exN))))⟩, ⟨["BadNumber"], some 5, (exS 4 (exT (exA (exC (.str "number")) (exA (exF "BadNumber" "value") exN))))⟩] (sSet 4 (eL mkT (aC (eC (.str "let")) (aC (eCallV tab__law_asked 3 (aC (eVar 1) (aC (eVar 2) aN))) aN))))) (sRet (eVar 4)))))
def fn__law_asked : List D → M D := fun ds => runB S__law_asked (env0 6 ds)
abbrev s__law_right : Stmt := top 46
def N__law_right : List Str := ["_law_m", "_law_lot", "_law_many", "_law_due", "_law_twice", "_law_more", "_law_sizes", "_law_less", "_law_around", "_law_one"]
def dk__law_right : Nat → Kd
  | _ => .dat
def S__law_right : SE → M Ctl := (sq (sSet 3 (eCall fn__law_met_all (aC (eVar 1) (aC (eVar 2) aN)))) (sq (sSet 4 (eCall fn__law_met_all (aC (eVar 3) (aC (eVar 2) aN)))) (sq (sIf (tNot1 (tV asB (eCall fn__law_like (aC (eL mkL (aC (eCall fn_turned (aC (eVar 1) (aC (eVar 2) aN))) (aC (eCall fn_closed (aC (eVar 1) (aC (eVar 2) aN))) (aC (eCall fn_is_closed (aC (eVar 1) (aC (eVar 2) aN))) aN)))) (aC (eL mkL (aC (eVar 3) (aC (eVar 4) (aC (e2 eqD (eVar 4) (eVar 1)) aN)))) aN))))) (sRet (eC (.bool false))) sNx) (sq (sIf (tNot1 (tV asB (eCall fn__law_like (aC (eL mkL (aC (eCall fn_turned (aC (eVar 4) (aC (eVar 2) aN))) (aC (eCall fn_closed (aC (eVar 3) (aC (eVar 2) aN))) (aC (eCall fn_is_closed (aC (eVar 3) (aC (eVar 2) aN))) (aC (eCall fn_is_closed (aC (eVar 4) (aC (eVar 2) aN))) aN))))) (aC (eL mkL (aC (eVar 3) (aC (eVar 3) (aC (eC (.bool true)) (aC (eC (.bool true)) aN))))) aN))))) (sRet (eC (.bool false))) sNx) (sq (sIf (tV asB (e2 neD (lcF (iL seqT (eVar 1)) (gNm 9) (tV asB (e2 notInD (eVar 9) (eCall fn_closed (aC (eVar 1) (aC (eVar 2) aN))))) (eC (.int 1)) [9]) (eL mkL aN))) (sRet (eC (.bool false))) sNx) (sq (sSet 5 (eCall fn__law_lot_from (aC (e2 catD (eL (one1 listD) (aC (eVar 1) aN)) (eL mkL (aC (eCallM fn__law_parting (aC (eVar 2) aN)) aN))) aN))) (sq (sAsg (gTp 2 (gC (gNm 7) (gC (gNm 8) gN0))) (eL mkT (aC (eCall fn_turned (aC (eVar 5) (aC (eVar 2) aN))) (aC (eCall fn_closed (aC (eVar 5) (aC (eVar 2) aN))) aN)))) (sq (sIf (tOr2 (tV asB (e2 neD (lcF (iL seqT (eVar 7)) (gNm 9) (tV asB (e2 notInD (eVar 9) (eVar 3))) (eC (.int 1)) [9]) (eL mkL aN))) (tV asB (e2 neD (lcF (iL seqT (eVar 4)) (gNm 9) (tV asB (e2 notInD (eVar 9) (eVar 8))) (eC (.int 1)) [9]) (eL mkL aN)))) (sRet (eC (.bool false))) sNx) (sq (sSetO 6 (lcF (iL seqT (eVar 5)) (gNm 9) tYs (eL (one1 maxV) (aC (eVar 9) aN)) [9])) (sRet (eOr (e2 eqD (eVar 2) (eC (.int 1))) (eOr (e2 eqD (eTy tyL cntD (eVar 6) (e2 ixD (eVar 6) (eC (.int 0)))) (eL (one1 lenD) (aC (eVar 6) aN))) (eAnd (e2 eqD (eVar 7) (eL mkT aN)) (e2 eqD (eL (one1 lenD) (aC (eVar 8) aN)) (eL (one1 lenD) (aC (eCall fn__law_partings (aC (eVar 2) aN)) aN))))))))))))))))
def fn__law_right : List D → M D := fun ds => runB S__law_right (envM 10 ds)
abbrev s__law_twice_bad : Stmt := top 47
def N__law_twice_bad : List Str := ["_law_m", "_law_lot", "_law_many", "_law_one", "_law_odd"]
def dk__law_twice_bad : Nat → Kd
  | _ => .dat
def S__law_twice_bad : SE → M Ctl := (sq (sSet 3 (eCallM fn__law_parting (aC (eVar 2) aN))) (sq (sSet 4 (eCallM fn__law_of (aC (eL mkL (aC (eC .none) (aC (eL (one1 listD) (aC (eVar 3) aN)) (aC (e2 addD (eVar 3) (eL mkT (aC (eC (.int 0)) aN))) (aC (e2 addD (eL mkT (aC (eC (.int 1)) aN)) (slD (eVar 3) (pS (eC (.int 1))) pN)) aN))))) aN))) (sRet (eIf (tV asB (e2 eqD (eCallM fn__law_draw (aC (eC (.int 2)) aN)) (eC (.int 0)))) (eL mkT (aC (e2 addD (eVar 1) (eL mkT (aC (eVar 4) (aC (eVar 3) (aC (eVar 3) aN))))) (aC (eC (.str "parting")) aN))) (eL mkT (aC (e2 addD (eL mkT (aC (eVar 3) (aC (eVar 3) (aC (eVar 4) aN)))) (eVar 1)) (aC (eC (.str "order")) aN)))))))
def fn__law_twice_bad : List D → M D := fun ds => runB S__law_twice_bad (envM 5 ds)
abbrev s_law : Stmt := top 48
def N_law : List Str := ["_law_script", "_law_m", "_law_turn", "_law_told", "_law_many", "_law_lot", "_law_bad", "_law_word", "_law_which", "_law_wrong", "_law_twice"]
def dk_law : Nat → Kd
  | 5 => .nd
  | _ => .dat
def S_law : SE → M Ctl := (sq (sFor (iA rng1 (aC (e2 addD (eC (.int 1)) (eL (two2 min2D) (aC (eL (one1 lenD) (aC (eVar 0) aN)) (aC (eC (.int 3)) aN)))) aN)) (gNm 2) (sq (sSet 4 (eCallM fn__law_of (aC (eL mkL (aC (eC (.int 1)) (aC (eC (.int 2)) (aC (eC (.int 3)) (aC (eC (.int 3)) (aC (eC (.int 4)) (aC (eC (.int 4)) (aC (eC (.int 4)) (aC (eC (.int 5)) (aC (eC (.int 5)) (aC (eC (.int 6)) aN))))))))))) aN))) (sq (sSet 5 (eCallM fn__law_some_lot (aC (eVar 4) aN))) (sq (sIf (tNot1 (tV asB (eCallM fn__law_right (aC (eVar 5) (aC (eVar 4) aN))))) (sRet (eC (.bool false))) sNx) (sq (sAsg (gTp 2 (gC (gNm 6) (gC (gNm 7) gN0))) (eCallM fn__law_bad_lot (aC (eVar 5) (aC (eVar 4) aN)))) (sq (sPar 8 9 (aC (eCallM fn__law_draw (aC (eC (.int 4)) aN)) (aC (eCallM fn__law_of (aC (eL mkL (aC (eC (.int 0)) (aC (eC (.int 7)) (aC (e1 negD (eC (.int 1))) (aC (eC (.bool true)) (aC (eC .none) (aC (eC (.str "3")) (aC (eL mkL aN) (aC (e2 powD (eC (.int 10)) (eC (.int 30))) aN))))))))) aN)) aN))) (sq (sSet 3 (eL mkL (aC (eCall fn__law_asked (aC (eVar 8) (aC (eVar 6) (aC (eVar 4) aN)))) (aC (eCall fn__law_asked (aC (eVar 8) (aC (eVar 6) (aC (eVar 9) aN)))) (aC (eCall fn__law_asked (aC (eVar 8) (aC (eVar 5) (aC (eVar 9) aN)))) aN))))) (sq (sIf (tNot1 (tV asB (eCall fn__law_like (aC (eVar 3) (aC (eL mkL (aC (eL mkT (aC (eC (.str "lot")) (aC (eVar 7) aN))) (aC (eL mkT (aC (eC (.str "number")) (aC (eVar 9) aN))) (aC (eL mkT (aC (eC (.str "number")) (aC (eVar 9) aN))) aN)))) aN))))) (sRet (eC (.bool false))) sNx) (sq (sAsg (gTp 2 (gC (gNm 10) (gC (gNm 7) gN0))) (eCallM fn__law_twice_bad (aC (eVar 5) (aC (eVar 4) aN)))) (sIf (tNot1 (tV asB (eCall fn__law_like (aC (eL mkL (aC (eCall fn__law_asked (aC (eC (.int 0)) (aC (eVar 5) (aC (eVar 4) aN)))) (aC (eCall fn__law_asked (aC (eVar 8) (aC (eVar 10) (aC (eVar 4) aN)))) aN))) (aC (eL mkL (aC (eL mkT (aC (eC (.str "let")) (aC (eVar 5) aN))) (aC (eL mkT (aC (eC (.str "lot")) (aC (eVar 7) aN))) aN))) aN))))) (sRet (eC (.bool false))) sNx)))))))))) (sq (sSet 3 (eL mkL (aC (eCall fn_turned (aC (eL mkT aN) (aC (eC (.int 1)) aN))) (aC (eCall fn_closed (aC (eL mkT aN) (aC (eC (.int 1)) aN))) (aC (eCall fn_is_closed (aC (eL mkT aN) (aC (eC (.int 1)) aN))) (aC (eCall fn_closed (aC (eL mkT aN) (aC (eC (.int 2)) aN))) (aC (eCall fn_turned (aC (eL mkT (aC (eL mkT (aC (eC (.int 0)) (aC (eC (.int 0)) (aC (eC (.int 1)) aN)))) aN)) (aC (eC (.int 3)) aN))) aN))))))) (sq (sIf (tNot1 (tV asB (eCall fn__law_like (aC (eVar 3) (aC (eL mkL (aC (eL mkT (aC (eL mkT (aC (eC (.int 0)) aN)) aN)) (aC (eL mkT (aC (eL mkT (aC (eC (.int 0)) aN)) aN)) (aC (eC (.bool false)) (aC (eL mkT aN) (aC (eL mkT (aC (eL mkT (aC (eC (.int 0)) (aC (eC (.int 1)) (aC (eC (.int 0)) aN)))) (aC (eL mkT (aC (eC (.int 0)) (aC (eC (.int 1)) (aC (eC (.int 1)) aN)))) aN))) aN)))))) aN))))) (sRet (eC (.bool false))) sNx) (sRet (eCall fn__law_like (aC (eCall fn_closed (aC (eL mkT (aC (eL mkT (aC (eC (.int 0)) (aC (eC (.int 0)) (aC (eC (.int 1)) aN)))) (aC (eL mkT (aC (eC (.int 0)) (aC (eC (.int 1)) (aC (eC (.int 0)) aN)))) aN))) (aC (eC (.int 3)) aN))) (aC (eL mkT (aC (eL mkT (aC (eC (.int 0)) (aC (eC (.int 0)) (aC (eC (.int 1)) aN)))) (aC (eL mkT (aC (eC (.int 0)) (aC (eC (.int 1)) (aC (eC (.int 0)) aN)))) aN))) aN)))))))
end K15
namespace K15
open PySem L2 VL
theorem nonx_ret {F : SE → M D} : ∀ en e m1 m2, sRet F en m1 ≠ .ok (.nx e) m2 := fun en e m1 m2 h => by
  unfold sRet at h
  change M.bd (F en) (fun d => (pure (Ctl.rt d) : M Ctl)) m1 = Out.ok (Ctl.nx e) m2 at h
  unfold M.bd at h
  cases q : F en m1 with
  | ok d m3 => rw [q] at h; cases h
  | exc x y => rw [q] at h; cases h
  | bad => rw [q] at h; cases h
theorem nonx_sq {S S' : SE → M Ctl} (h' : ∀ en e m1 m2, S' en m1 ≠ .ok (.nx e) m2) : ∀ en e m1 m2, sq S S' en m1 ≠ .ok (.nx e) m2 := fun en e m1 m2 h => by
  unfold sq at h
  change M.bd (S en) _ m1 = Out.ok (Ctl.nx e) m2 at h
  unfold M.bd at h
  cases q : S en m1 with
  | exc x y => rw [q] at h; cases h
  | bad => rw [q] at h; cases h
  | ok k m3 =>
    rw [q] at h
    cases k with
    | nx e' => exact h' e' e m3 m2 h
    | rt d => cases h
    | bk e' => cases h
    | ct e' => cases h
structure Tx (mg : Str → Option Value) : Prop where
  b_bool : mg "bool" = none
  b_enumerate : mg "enumerate" = none
  b_int : mg "int" = none
  b_isinstance : mg "isinstance" = none
  b_len : mg "len" = none
  b_list : mg "list" = none
  b_max : mg "max" = none
  b_min : mg "min" = none
  b_range : mg "range" = none
  b_repr : mg "repr" = none
  b_set : mg "set" = none
  b_sorted : mg "sorted" = none
  b_tuple : mg "tuple" = none
  b_zip : mg "zip" = none
  g_MOST_DOORS_lots : ∃ t, mg "MOST_DOORS_lots" = some (.int 6 t)
  g_MOST_DOORS_partings : ∃ t, mg "MOST_DOORS_partings" = some (.int 60 t)
structure Exs (P : Program) (w : World) (K : PySem.W.Frag) (mg : Str → Option Value) (base : Heap) (c_BadParting c_BadLot c_BadNumber : Addr) : Prop where
  e_BadParting : ErC P w K mg base "BadParting" c_BadParting ["place"]
  m_BadParting : mg "BadParting" = some (.ref c_BadParting)
  t_BadParting : Tells K mg errs (.ref c_BadParting) ["BadParting"]
  x_BadParting : XfC K c_BadParting
  f_BadParting_place : PySem.W.findIn K (.ref c_BadParting) "place" = some none
  e_BadLot : ErC P w K mg base "BadLot" c_BadLot ["word"]
  m_BadLot : mg "BadLot" = some (.ref c_BadLot)
  t_BadLot : Tells K mg errs (.ref c_BadLot) ["BadLot"]
  x_BadLot : XfC K c_BadLot
  f_BadLot_word : PySem.W.findIn K (.ref c_BadLot) "word" = some none
  e_BadNumber : ErC P w K mg base "BadNumber" c_BadNumber ["value"]
  m_BadNumber : mg "BadNumber" = some (.ref c_BadNumber)
  t_BadNumber : Tells K mg errs (.ref c_BadNumber) ["BadNumber"]
  x_BadNumber : XfC K c_BadNumber
  f_BadNumber_value : PySem.W.findIn K (.ref c_BadNumber) "value" = some none
theorem nd_is_whole : N_is_whole.Nodup := by decide +kernel
theorem sc_is_whole : FnScope N_is_whole ["value"] (defScope s_is_whole) := ⟨rfl, rfl, rfl, nd_is_whole, rfl, by decide +kernel, by decide +kernel⟩
theorem b_is_whole {P : Program} {w : World} {K : PySem.W.Frag} {mg : Str → Option Value} {base : Heap} {f : Addr}  (T : Tx mg)  (cdv : Value) (A : Around) (outer : List Env) (s : Shared) (H : Hp) (E : XK)
    (hgd : (A.deeper (PyProof.Rows.envOfC "is_whole" (defScope s_is_whole) s.heap.objs.size f cdv)).guards = some []) (hr : Room 0 (A.deeper (PyProof.Rows.envOfC "is_whole" (defScope s_is_whole) s.heap.objs.size f cdv))) :
    FSs (cxOf CX0 P w K mg base N_is_whole "is_whole" (defScope s_is_whole) f cdv A outer s H E).nox ⟨none, [], dk_is_whole, .dat, EN⟩ [] [] (defBody s_is_whole) S_is_whole [] := by
  have nd := nd_is_whole
  have hc : (cxOf CX0 P w K mg base N_is_whole "is_whole" (defScope s_is_whole) f cdv A outer s H E).nox.calm = true := rfl
  have hu : HU (cxOf CX0 P w K mg base N_is_whole "is_whole" (defScope s_is_whole) f cdv A outer s H E).nox := .of hr
  have hu1 := hu_1 hu
  have hu64 := hu_64 hu
  have hu65 := hu_65 hu
  exact (fss_one (fs_ret (fe_and (fe_isi (T := "int") T.b_isinstance T.b_int (fr_var .dat 0)) (fe_one (fe_not (fe_isi (T := "bool") T.b_isinstance T.b_bool (fr_var .dat 0)))))))
theorem ok_is_whole {P : Program} {w : World} {K : PySem.W.Frag} {mg : Str → Option Value} {base : Heap} {f : Addr} {fd : FuncData}  (T : Tx mg) (F : Fun K "is_whole" "is_whole" s_is_whole f fd)  :
    FnV P w K mg base CX0 1 f fd ["value"] (spP K [.dat] .dat fn_is_whole) :=
  fn_P F sc_is_whole rfl (fun i kk h => match i, h with | 0, h => by cases h; rfl | n + 1, h => by cases h) (fun cdv A outer s H E hgd hr => b_is_whole T  cdv A outer s H E hgd hr) (.inl rfl)
theorem nd_is_within : N_is_within.Nodup := by decide +kernel
theorem sc_is_within : FnScope N_is_within ["value", "low", "high"] (defScope s_is_within) := ⟨rfl, rfl, rfl, nd_is_within, rfl, by decide +kernel, by decide +kernel⟩
theorem b_is_within {P : Program} {w : World} {K : PySem.W.Frag} {mg : Str → Option Value} {base : Heap} {f : Addr} {f_is_whole : Addr} {d_is_whole : FuncData} {p_is_whole : List Str} (T : Tx mg) (C_is_whole : Fc P w K mg base "is_whole" 1 f_is_whole d_is_whole p_is_whole [.dat] .dat fn_is_whole) (cdv : Value) (A : Around) (outer : List Env) (s : Shared) (H : Hp) (E : XK)
    (hgd : (A.deeper (PyProof.Rows.envOfC "is_within" (defScope s_is_within) s.heap.objs.size f cdv)).guards = some []) (hr : Room 1 (A.deeper (PyProof.Rows.envOfC "is_within" (defScope s_is_within) s.heap.objs.size f cdv))) :
    FSs (cxOf CX0 P w K mg base N_is_within "is_within" (defScope s_is_within) f cdv A outer s H E).nox ⟨none, [], dk_is_within, .dat, EN⟩ [] [] (defBody s_is_within) S_is_within [] := by
  have nd := nd_is_within
  have hc : (cxOf CX0 P w K mg base N_is_within "is_within" (defScope s_is_within) f cdv A outer s H E).nox.calm = true := rfl
  have hu : HU (cxOf CX0 P w K mg base N_is_within "is_within" (defScope s_is_within) f cdv A outer s H E).nox := .of hr
  have hu1 := hu_1 hu
  have hu64 := hu_64 hu
  have hu65 := hu_65 hu
  exact (fss_one (fs_ret (fe_and (fr_f C_is_whole hgd (hr.mono (by decide)) (fa_cons (fr_var .dat 0) fa_nil)) (fe_one (fe_chain ov_le ov_le (fb (fr_var .dat 1)) (fb (fr_var .dat 0)) (fb (fr_var .dat 2)))))))
theorem ok_is_within {P : Program} {w : World} {K : PySem.W.Frag} {mg : Str → Option Value} {base : Heap} {f : Addr} {fd : FuncData} {f_is_whole : Addr} {d_is_whole : FuncData} {p_is_whole : List Str} (T : Tx mg) (F : Fun K "is_within" "is_within" s_is_within f fd) (C_is_whole : Fc P w K mg base "is_whole" 1 f_is_whole d_is_whole p_is_whole [.dat] .dat fn_is_whole) :
    FnV P w K mg base CX0 2 f fd ["value", "low", "high"] (spP K [.dat, .dat, .dat] .dat fn_is_within) :=
  fn_P F sc_is_within rfl (fun i kk h => match i, h with | 0, h => by cases h; rfl | 1, h => by cases h; rfl | 2, h => by cases h; rfl | n + 3, h => by cases h) (fun cdv A outer s H E hgd hr => b_is_within T C_is_whole cdv A outer s H E hgd hr) (.inl rfl)
theorem nd_need_number : N_need_number.Nodup := by decide +kernel
theorem sc_need_number : FnScope N_need_number ["value", "low", "high"] (defScope s_need_number) := ⟨rfl, rfl, rfl, nd_need_number, rfl, by decide +kernel, by decide +kernel⟩
theorem b_need_number {P : Program} {w : World} {K : PySem.W.Frag} {mg : Str → Option Value} {base : Heap} {f : Addr} {f_is_within : Addr} {d_is_within : FuncData} {p_is_within : List Str} {c_BadParting : Addr} {c_BadLot : Addr} {c_BadNumber : Addr} (T : Tx mg) (C_is_within : Fc P w K mg base "is_within" 2 f_is_within d_is_within p_is_within [.dat, .dat, .dat] .dat fn_is_within) (EX : Exs P w K mg base c_BadParting c_BadLot c_BadNumber) (cdv : Value) (A : Around) (outer : List Env) (s : Shared) (H : Hp) (E : XK)
    (hgd : (A.deeper (PyProof.Rows.envOfC "need_number" (defScope s_need_number) s.heap.objs.size f cdv)).guards = some []) (hr : Room 2 (A.deeper (PyProof.Rows.envOfC "need_number" (defScope s_need_number) s.heap.objs.size f cdv))) :
    FSs (cxOf (L2.CX P w) P w K mg base N_need_number "need_number" (defScope s_need_number) f cdv A outer s H E) ⟨none, [], dk_need_number, .dat, fun _ => E⟩ [] [] (defBody s_need_number) S_need_number [] := by
  have nd := nd_need_number
  have hc : (cxOf (L2.CX P w) P w K mg base N_need_number "need_number" (defScope s_need_number) f cdv A outer s H E).calm = true := rfl
  have hu : HU (cxOf (L2.CX P w) P w K mg base N_need_number "need_number" (defScope s_need_number) f cdv A outer s H E) := .of hr
  have hu1 := hu_1 hu
  have hu64 := hu_64 hu
  have hu65 := hu_65 hu
  have tk : TkX (cxOf (L2.CX P w) P w K mg base N_need_number "need_number" (defScope s_need_number) f cdv A outer s H E) ⟨none, [], dk_need_number, .dat, fun _ => E⟩ := takes_cx
  exact (fss_cons (fs_if (Un := []) (ft_not (ft_val (fr_f C_is_within hgd (hr.mono (by decide)) (fa_cons (fr_var .dat 0) (fa_cons (fr_var .dat 1) (fa_cons (fr_var .dat 2) fa_nil)))))) (fss_one (fs_raise EX.e_BadNumber tk hc (hr.mono (by decide)) (by decide) (fa_cons (fr_var .dat 0) fa_nil))) fss_nil) (fss_one (fs_ret (fr_var .dat 0))))
theorem ok_need_number {P : Program} {w : World} {K : PySem.W.Frag} {mg : Str → Option Value} {base : Heap} {f : Addr} {fd : FuncData} {f_is_within : Addr} {d_is_within : FuncData} {p_is_within : List Str} {c_BadParting : Addr} {c_BadLot : Addr} {c_BadNumber : Addr} (T : Tx mg) (F : Fun K "need_number" "need_number" s_need_number f fd) (C_is_within : Fc P w K mg base "is_within" 2 f_is_within d_is_within p_is_within [.dat, .dat, .dat] .dat fn_is_within) (EX : Exs P w K mg base c_BadParting c_BadLot c_BadNumber) :
    FnV P w K mg base (L2.CX P w) 3 f fd ["value", "low", "high"] (spPX K mg [.dat, .dat, .dat] .dat fn_need_number) :=
  fn_PX F sc_need_number rfl (fun i kk h => match i, h with | 0, h => by cases h; rfl | 1, h => by cases h; rfl | 2, h => by cases h; rfl | n + 3, h => by cases h) (fun cdv A outer s H E hgd hr => b_need_number T C_is_within EX cdv A outer s H E hgd hr) (.inl rfl)
theorem nd_need_parting : N_need_parting.Nodup := by decide +kernel
theorem sc_need_parting : FnScope N_need_parting ["parting"] (defScope s_need_parting) := ⟨rfl, rfl, rfl, nd_need_parting, rfl, by decide +kernel, by decide +kernel⟩
theorem b_need_parting {P : Program} {w : World} {K : PySem.W.Frag} {mg : Str → Option Value} {base : Heap} {f : Addr} {f_is_within : Addr} {d_is_within : FuncData} {p_is_within : List Str} {c_BadParting : Addr} {c_BadLot : Addr} {c_BadNumber : Addr} (T : Tx mg) (C_is_within : Fc P w K mg base "is_within" 2 f_is_within d_is_within p_is_within [.dat, .dat, .dat] .dat fn_is_within) (EX : Exs P w K mg base c_BadParting c_BadLot c_BadNumber) (cdv : Value) (A : Around) (outer : List Env) (s : Shared) (H : Hp) (E : XK)
    (hgd : (A.deeper (PyProof.Rows.envOfC "need_parting" (defScope s_need_parting) s.heap.objs.size f cdv)).guards = some []) (hr : Room 2 (A.deeper (PyProof.Rows.envOfC "need_parting" (defScope s_need_parting) s.heap.objs.size f cdv))) :
    FSs (cxOf (L2.CX P w) P w K mg base N_need_parting "need_parting" (defScope s_need_parting) f cdv A outer s H E) ⟨none, [], dk_need_parting, .dat, fun _ => E⟩ [] [] (defBody s_need_parting) S_need_parting [] := by
  have nd := nd_need_parting
  have hc : (cxOf (L2.CX P w) P w K mg base N_need_parting "need_parting" (defScope s_need_parting) f cdv A outer s H E).calm = true := rfl
  have hu : HU (cxOf (L2.CX P w) P w K mg base N_need_parting "need_parting" (defScope s_need_parting) f cdv A outer s H E) := .of hr
  have hu1 := hu_1 hu
  have hu64 := hu_64 hu
  have hu65 := hu_65 hu
  have tk : TkX (cxOf (L2.CX P w) P w K mg base N_need_parting "need_parting" (defScope s_need_parting) f cdv A outer s H E) ⟨none, [], dk_need_parting, .dat, fun _ => E⟩ := takes_cx
  have hpo : PassesOwn (model (cxOf (L2.CX P w) P w K mg base N_need_parting "need_parting" (defScope s_need_parting) f cdv A outer s H E).prog (cxOf (L2.CX P w) P w K mg base N_need_parting "need_parting" (defScope s_need_parting) f cdv A outer s H E).w) (cxOf (L2.CX P w) P w K mg base N_need_parting "need_parting" (defScope s_need_parting) f cdv A outer s H E).A (cxOf (L2.CX P w) P w K mg base N_need_parting "need_parting" (defScope s_need_parting) f cdv A outer s H E).env (cxOf (L2.CX P w) P w K mg base N_need_parting "need_parting" (defScope s_need_parting) f cdv A outer s H E).xe := passes_of rfl
  exact (fss_cons (fs_if (Un := []) (ft_w (fw_or (ft_not (ft_truth (fb (fe_isi (T := "tuple") T.b_isinstance T.b_tuple (fr_var .dat 0))))) (fw_or1 (ft_not (ft_chain ov_le ov_le (fb fe_int) (fb (fe_callB cv_len T.b_len (fab_cons (fb (fr_var .dat 0)) fab_nil))) (fb (fe_gI T.g_MOST_DOORS_partings))))))) (fss_one (fs_raise EX.e_BadParting tk hc (hr.mono (by decide)) (by decide) (fa_cons fe_non fa_nil))) fss_nil) (fss_cons (fs_set 1 fe_int nd) (fss_cons (fs_for hpo hc (fi_enum false T.b_enumerate (fa_cons (fr_var .dat 0) fa_nil)) (fg_tup (n := 2) hc (fg_cons (fg_nm 2 nd) (fg_cons (fg_nm 3 nd) fg_nil))) (fss_cons (fs_if (Un := []) (ft_not (ft_val (fr_f C_is_within hgd (hr.mono (by decide)) (fa_cons (fr_var .dat 3) (fa_cons fe_int (fa_cons (fr_var .dat 1) fa_nil)))))) (fss_one (fs_raise EX.e_BadParting tk hc (hr.mono (by decide)) (by decide) (fa_cons (fr_var .dat 2) fa_nil))) fss_nil) (fss_one (fs_set 1 (fe_callB cv_max2 T.b_max (fab_cons (fb (fr_var .dat 1)) (fab_cons (fb (fe_binS ov_add (fr_var .dat 3) fe_int)) fab_nil))) nd)))) (fss_one (fs_ret (fr_var .dat 0))))))
theorem ok_need_parting {P : Program} {w : World} {K : PySem.W.Frag} {mg : Str → Option Value} {base : Heap} {f : Addr} {fd : FuncData} {f_is_within : Addr} {d_is_within : FuncData} {p_is_within : List Str} {c_BadParting : Addr} {c_BadLot : Addr} {c_BadNumber : Addr} (T : Tx mg) (F : Fun K "need_parting" "need_parting" s_need_parting f fd) (C_is_within : Fc P w K mg base "is_within" 2 f_is_within d_is_within p_is_within [.dat, .dat, .dat] .dat fn_is_within) (EX : Exs P w K mg base c_BadParting c_BadLot c_BadNumber) :
    FnV P w K mg base (L2.CX P w) 3 f fd ["parting"] (spPX K mg [.dat] .dat fn_need_parting) :=
  fn_PX F sc_need_parting rfl (fun i kk h => match i, h with | 0, h => by cases h; rfl | n + 1, h => by cases h) (fun cdv A outer s H E hgd hr => b_need_parting T C_is_within EX cdv A outer s H E hgd hr) (.inl rfl)
theorem nd_is_parting : N_is_parting.Nodup := by decide +kernel
theorem sc_is_parting : FnScope N_is_parting ["value"] (defScope s_is_parting) := ⟨rfl, rfl, rfl, nd_is_parting, rfl, by decide +kernel, by decide +kernel⟩
theorem b_is_parting {P : Program} {w : World} {K : PySem.W.Frag} {mg : Str → Option Value} {base : Heap} {f : Addr} {f_need_parting : Addr} {d_need_parting : FuncData} {p_need_parting : List Str} {c_BadParting : Addr} {c_BadLot : Addr} {c_BadNumber : Addr} (T : Tx mg) (C_need_parting : FcX P w K mg base "need_parting" 3 f_need_parting d_need_parting p_need_parting [.dat] .dat fn_need_parting) (EX : Exs P w K mg base c_BadParting c_BadLot c_BadNumber) (cdv : Value) (A : Around) (outer : List Env) (s : Shared) (H : Hp) (E : XK)
    (hgd : (A.deeper (PyProof.Rows.envOfC "is_parting" (defScope s_is_parting) s.heap.objs.size f cdv)).guards = some []) (hr : Room 3 (A.deeper (PyProof.Rows.envOfC "is_parting" (defScope s_is_parting) s.heap.objs.size f cdv))) :
    FSs (cxOf CX0 P w K mg base N_is_parting "is_parting" (defScope s_is_parting) f cdv A outer s H E).nox ⟨none, [], dk_is_parting, .dat, EN⟩ [] [] (defBody s_is_parting) S_is_parting [] := by
  have nd := nd_is_parting
  have hc : (cxOf CX0 P w K mg base N_is_parting "is_parting" (defScope s_is_parting) f cdv A outer s H E).nox.calm = true := rfl
  have hu : HU (cxOf CX0 P w K mg base N_is_parting "is_parting" (defScope s_is_parting) f cdv A outer s H E).nox := .of hr
  have hu1 := hu_1 hu
  have hu64 := hu_64 hu
  have hu65 := hu_65 hu
  have tk : TkX (cxOf CX0 P w K mg base N_is_parting "is_parting" (defScope s_is_parting) f cdv A outer s H E).nox ⟨none, [], dk_is_parting, .dat, EN⟩ := takesN
  exact (fss_cons (fs_tryX (errs := errs) rfl rfl nd tk (fun pl xe E2 tk2 => (fs1_drop (fr_fX C_need_parting tk2 hgd (hr.mono (by decide)) (fa_cons (fr_var .dat 0) fa_nil)))) (.plain ⟨rfl, by decide, .inl EX.m_BadParting⟩ EX.t_BadParting (su_ret fxe_bl) (fun x i d h => noSet h) (fun _ _ _ => rfl) .nil)) (fss_one (fs_ret fe_bl)))
theorem ok_is_parting {P : Program} {w : World} {K : PySem.W.Frag} {mg : Str → Option Value} {base : Heap} {f : Addr} {fd : FuncData} {f_need_parting : Addr} {d_need_parting : FuncData} {p_need_parting : List Str} {c_BadParting : Addr} {c_BadLot : Addr} {c_BadNumber : Addr} (T : Tx mg) (F : Fun K "is_parting" "is_parting" s_is_parting f fd) (C_need_parting : FcX P w K mg base "need_parting" 3 f_need_parting d_need_parting p_need_parting [.dat] .dat fn_need_parting) (EX : Exs P w K mg base c_BadParting c_BadLot c_BadNumber) :
    FnV P w K mg base CX0 4 f fd ["value"] (spP K [.dat] .dat fn_is_parting) :=
  fn_P F sc_is_parting rfl (fun i kk h => match i, h with | 0, h => by cases h; rfl | n + 1, h => by cases h) (fun cdv A outer s H E hgd hr => b_is_parting T C_need_parting EX cdv A outer s H E hgd hr) (.inl rfl)
theorem nd_all_of : N_all_of.Nodup := by decide +kernel
theorem sc_all_of : FnScope N_all_of ["number"] (defScope s_all_of) := ⟨rfl, rfl, rfl, nd_all_of, rfl, by decide +kernel, by decide +kernel⟩
theorem b_all_of {P : Program} {w : World} {K : PySem.W.Frag} {mg : Str → Option Value} {base : Heap} {f : Addr}  (T : Tx mg)  (cdv : Value) (A : Around) (outer : List Env) (s : Shared) (H : Hp) (E : XK)
    (hgd : (A.deeper (PyProof.Rows.envOfC "all_of" (defScope s_all_of) s.heap.objs.size f cdv)).guards = some []) (hr : Room 0 (A.deeper (PyProof.Rows.envOfC "all_of" (defScope s_all_of) s.heap.objs.size f cdv))) :
    FSs (cxOf CX0 P w K mg base N_all_of "all_of" (defScope s_all_of) f cdv A outer s H E).nox ⟨none, [], dk_all_of, .dat, EN⟩ [] [] (defBody s_all_of) S_all_of [] := by
  have nd := nd_all_of
  have hc : (cxOf CX0 P w K mg base N_all_of "all_of" (defScope s_all_of) f cdv A outer s H E).nox.calm = true := rfl
  have hu : HU (cxOf CX0 P w K mg base N_all_of "all_of" (defScope s_all_of) f cdv A outer s H E).nox := .of hr
  have hu1 := hu_1 hu
  have hu64 := hu_64 hu
  have hu65 := hu_65 hu
  have hpo : PassesOwn (model (cxOf CX0 P w K mg base N_all_of "all_of" (defScope s_all_of) f cdv A outer s H E).nox.prog (cxOf CX0 P w K mg base N_all_of "all_of" (defScope s_all_of) f cdv A outer s H E).nox.w) (cxOf CX0 P w K mg base N_all_of "all_of" (defScope s_all_of) f cdv A outer s H E).nox.A (cxOf CX0 P w K mg base N_all_of "all_of" (defScope s_all_of) f cdv A outer s H E).nox.env (cxOf CX0 P w K mg base N_all_of "all_of" (defScope s_all_of) f cdv A outer s H E).nox.xe := PassesOwn.never
  exact (fss_cons (fs_set 1 (fe_of (fo_lst (n := 1) (fa_cons (fe_tup (n := 1) (fa_cons fe_int fa_nil)) fa_nil))) nd) (fss_cons (fs_for hpo hc (fi_rng2 T.b_range (fa_cons fe_int (fa_cons (fr_var .dat 0) fa_nil))) (fg_nm 2 nd) (fss_one (fs_wk (Un := []) (fs_setLc2 1 [("row", 3), ("block", 4)] [4] hc nd (fi_l (fr_var .dat 1)) (fun _ _ _ _ _ => (fg_nm 3 nd)) (fun _ _ _ _ _ => fts_nil) (fun _ _ _ _ _ => (fi_rng1 T.b_range (fa_cons (fe_binS ov_add (fe_callB (cv_max1 hu) T.b_max (fab_cons (fb (fr_var .dat 3)) fab_nil)) fe_int) fa_nil))) (fun _ _ _ _ _ => (fg_nm 4 nd)) (fun _ _ _ _ _ => fts_nil) (fun _ _ _ _ _ => (fe_binS ov_add (fr_var .dat 3) (fe_tup (n := 1) (fa_cons (fr_var .dat 4) fa_nil)))) (sw_true rfl rfl rfl rfl))))) (fss_one (fs_ret (fr_var .dat 1)))))
theorem ok_all_of {P : Program} {w : World} {K : PySem.W.Frag} {mg : Str → Option Value} {base : Heap} {f : Addr} {fd : FuncData}  (T : Tx mg) (F : Fun K "all_of" "all_of" s_all_of f fd)  :
    FnV P w K mg base CX0 1 f fd ["number"] (spP K [.dat] .dat fn_all_of) :=
  fn_P F sc_all_of rfl (fun i kk h => match i, h with | 0, h => by cases h; rfl | n + 1, h => by cases h) (fun cdv A outer s H E hgd hr => b_all_of T  cdv A outer s H E hgd hr) (.inl rfl)
theorem nd_lot_fault : N_lot_fault.Nodup := by decide +kernel
theorem sc_lot_fault : FnScope N_lot_fault ["lot", "number"] (defScope s_lot_fault) := ⟨rfl, rfl, rfl, nd_lot_fault, rfl, by decide +kernel, by decide +kernel⟩
theorem b_lot_fault {P : Program} {w : World} {K : PySem.W.Frag} {mg : Str → Option Value} {base : Heap} {f : Addr} {f_is_parting : Addr} {d_is_parting : FuncData} {p_is_parting : List Str} (T : Tx mg) (C_is_parting : Fc P w K mg base "is_parting" 4 f_is_parting d_is_parting p_is_parting [.dat] .dat fn_is_parting) (cdv : Value) (A : Around) (outer : List Env) (s : Shared) (H : Hp) (E : XK)
    (hgd : (A.deeper (PyProof.Rows.envOfC "lot_fault" (defScope s_lot_fault) s.heap.objs.size f cdv)).guards = some []) (hr : Room 4 (A.deeper (PyProof.Rows.envOfC "lot_fault" (defScope s_lot_fault) s.heap.objs.size f cdv))) :
    FSs (cxOf CX0 P w K mg base N_lot_fault "lot_fault" (defScope s_lot_fault) f cdv A outer s H E).nox ⟨none, [], dk_lot_fault, .dat, EN⟩ [] [] (defBody s_lot_fault) S_lot_fault [] := by
  have nd := nd_lot_fault
  have hc : (cxOf CX0 P w K mg base N_lot_fault "lot_fault" (defScope s_lot_fault) f cdv A outer s H E).nox.calm = true := rfl
  have hu : HU (cxOf CX0 P w K mg base N_lot_fault "lot_fault" (defScope s_lot_fault) f cdv A outer s H E).nox := .of hr
  have hu1 := hu_1 hu
  have hu64 := hu_64 hu
  have hu65 := hu_65 hu
  have hpo : PassesOwn (model (cxOf CX0 P w K mg base N_lot_fault "lot_fault" (defScope s_lot_fault) f cdv A outer s H E).nox.prog (cxOf CX0 P w K mg base N_lot_fault "lot_fault" (defScope s_lot_fault) f cdv A outer s H E).nox.w) (cxOf CX0 P w K mg base N_lot_fault "lot_fault" (defScope s_lot_fault) f cdv A outer s H E).nox.A (cxOf CX0 P w K mg base N_lot_fault "lot_fault" (defScope s_lot_fault) f cdv A outer s H E).nox.env (cxOf CX0 P w K mg base N_lot_fault "lot_fault" (defScope s_lot_fault) f cdv A outer s H E).nox.xe := PassesOwn.never
  exact (fss_cons (fs_if (Un := []) (ft_not (ft_truth (fb (fe_isi (T := "tuple") T.b_isinstance T.b_tuple (fr_var .dat 0))))) (fss_one (fs_ret fe_str)) fss_nil) (fss_cons (fs_set 2 (fe_tup (n := 0) fa_nil) nd) (fss_cons (fs_for hpo hc (fi_t (fr_var .dat 0)) (fg_nm 3 nd) (fss_cons (fs_if (Un := []) (ft_w (fw_or (ft_not (ft_val (fr_f C_is_parting hgd (hr.mono (by decide)) (fa_cons (fr_var .dat 3) fa_nil)))) (fw_or1 (ft_cmp (ov_ne hu64) (fb (fe_callB cv_len T.b_len (fab_cons (fb (fr_var .dat 3)) fab_nil))) (fb (fr_var .dat 1)))))) (fss_one (fs_ret fe_str)) fss_nil) (fss_cons (fs_if (Un := []) (ft_cmp (ov_leT hu64) (fb (fr_var .dat 3)) (fb (fr_var .dat 2))) (fss_one (fs_ret fe_str)) fss_nil) (fss_one (fs_set 2 (fr_var .dat 3) nd))))) (fss_one (fs_ret fe_non)))))
theorem ok_lot_fault {P : Program} {w : World} {K : PySem.W.Frag} {mg : Str → Option Value} {base : Heap} {f : Addr} {fd : FuncData} {f_is_parting : Addr} {d_is_parting : FuncData} {p_is_parting : List Str} (T : Tx mg) (F : Fun K "lot_fault" "lot_fault" s_lot_fault f fd) (C_is_parting : Fc P w K mg base "is_parting" 4 f_is_parting d_is_parting p_is_parting [.dat] .dat fn_is_parting) :
    FnV P w K mg base CX0 5 f fd ["lot", "number"] (spP K [.dat, .dat] .dat fn_lot_fault) :=
  fn_P F sc_lot_fault rfl (fun i kk h => match i, h with | 0, h => by cases h; rfl | 1, h => by cases h; rfl | n + 2, h => by cases h) (fun cdv A outer s H E hgd hr => b_lot_fault T C_is_parting cdv A outer s H E hgd hr) (.inl rfl)
theorem nd_need_lot : N_need_lot.Nodup := by decide +kernel
theorem sc_need_lot : FnScope N_need_lot ["lot", "number"] (defScope s_need_lot) := ⟨rfl, rfl, rfl, nd_need_lot, rfl, by decide +kernel, by decide +kernel⟩
theorem b_need_lot {P : Program} {w : World} {K : PySem.W.Frag} {mg : Str → Option Value} {base : Heap} {f : Addr} {f_need_number : Addr} {d_need_number : FuncData} {p_need_number : List Str} {f_lot_fault : Addr} {d_lot_fault : FuncData} {p_lot_fault : List Str} {c_BadParting : Addr} {c_BadLot : Addr} {c_BadNumber : Addr} (T : Tx mg) (C_need_number : FcX P w K mg base "need_number" 3 f_need_number d_need_number p_need_number [.dat, .dat, .dat] .dat fn_need_number) (C_lot_fault : Fc P w K mg base "lot_fault" 5 f_lot_fault d_lot_fault p_lot_fault [.dat, .dat] .dat fn_lot_fault) (EX : Exs P w K mg base c_BadParting c_BadLot c_BadNumber) (cdv : Value) (A : Around) (outer : List Env) (s : Shared) (H : Hp) (E : XK)
    (hgd : (A.deeper (PyProof.Rows.envOfC "need_lot" (defScope s_need_lot) s.heap.objs.size f cdv)).guards = some []) (hr : Room 5 (A.deeper (PyProof.Rows.envOfC "need_lot" (defScope s_need_lot) s.heap.objs.size f cdv))) :
    FSs (cxOf (L2.CX P w) P w K mg base N_need_lot "need_lot" (defScope s_need_lot) f cdv A outer s H E) ⟨none, [], dk_need_lot, .dat, fun _ => E⟩ [] [] (defBody s_need_lot) S_need_lot [] := by
  have nd := nd_need_lot
  have hc : (cxOf (L2.CX P w) P w K mg base N_need_lot "need_lot" (defScope s_need_lot) f cdv A outer s H E).calm = true := rfl
  have hu : HU (cxOf (L2.CX P w) P w K mg base N_need_lot "need_lot" (defScope s_need_lot) f cdv A outer s H E) := .of hr
  have hu1 := hu_1 hu
  have hu64 := hu_64 hu
  have hu65 := hu_65 hu
  have tk : TkX (cxOf (L2.CX P w) P w K mg base N_need_lot "need_lot" (defScope s_need_lot) f cdv A outer s H E) ⟨none, [], dk_need_lot, .dat, fun _ => E⟩ := takes_cx
  exact (fss_cons (fs_expr (fb (fr_fX C_need_number tk hgd (hr.mono (by decide)) (fa_cons (fr_var .dat 1) (fa_cons fe_int (fa_cons (fe_gI T.g_MOST_DOORS_lots) fa_nil)))))) (fss_cons (fs_set 2 (fr_f C_lot_fault hgd (hr.mono (by decide)) (fa_cons (fr_var .dat 0) (fa_cons (fr_var .dat 1) fa_nil))) nd) (fss_cons (fs_if (Un := []) (ft_cmp ov_isNN (fb (fr_var .dat 2)) (fb fe_non)) (fss_one (fs_raise EX.e_BadLot tk hc (hr.mono (by decide)) (by decide) (fa_cons (fr_var .dat 2) fa_nil))) fss_nil) (fss_one (fs_ret (fr_var .dat 0))))))
theorem ok_need_lot {P : Program} {w : World} {K : PySem.W.Frag} {mg : Str → Option Value} {base : Heap} {f : Addr} {fd : FuncData} {f_need_number : Addr} {d_need_number : FuncData} {p_need_number : List Str} {f_lot_fault : Addr} {d_lot_fault : FuncData} {p_lot_fault : List Str} {c_BadParting : Addr} {c_BadLot : Addr} {c_BadNumber : Addr} (T : Tx mg) (F : Fun K "need_lot" "need_lot" s_need_lot f fd) (C_need_number : FcX P w K mg base "need_number" 3 f_need_number d_need_number p_need_number [.dat, .dat, .dat] .dat fn_need_number) (C_lot_fault : Fc P w K mg base "lot_fault" 5 f_lot_fault d_lot_fault p_lot_fault [.dat, .dat] .dat fn_lot_fault) (EX : Exs P w K mg base c_BadParting c_BadLot c_BadNumber) :
    FnV P w K mg base (L2.CX P w) 6 f fd ["lot", "number"] (spPX K mg [.dat, .dat] .dat fn_need_lot) :=
  fn_PX F sc_need_lot rfl (fun i kk h => match i, h with | 0, h => by cases h; rfl | 1, h => by cases h; rfl | n + 2, h => by cases h) (fun cdv A outer s H E hgd hr => b_need_lot T C_need_number C_lot_fault EX cdv A outer s H E hgd hr) (.inl rfl)
theorem nd_joined_labels : N_joined_labels.Nodup := by decide +kernel
theorem sc_joined_labels : FnScope N_joined_labels ["parting", "other"] (defScope s_joined_labels) := ⟨rfl, rfl, rfl, nd_joined_labels, rfl, by decide +kernel, by decide +kernel⟩
theorem b_joined_labels {P : Program} {w : World} {K : PySem.W.Frag} {mg : Str → Option Value} {base : Heap} {f : Addr}  (T : Tx mg)  (cdv : Value) (A : Around) (outer : List Env) (s : Shared) (H : Hp) (E : XK)
    (hgd : (A.deeper (PyProof.Rows.envOfC "joined_labels" (defScope s_joined_labels) s.heap.objs.size f cdv)).guards = some []) (hr : Room 0 (A.deeper (PyProof.Rows.envOfC "joined_labels" (defScope s_joined_labels) s.heap.objs.size f cdv))) :
    FSs (cxOf CX0 P w K mg base N_joined_labels "joined_labels" (defScope s_joined_labels) f cdv A outer s H E).nox ⟨none, [], dk_joined_labels, .dat, EN⟩ [] [] (defBody s_joined_labels) S_joined_labels [] := by
  have nd := nd_joined_labels
  have hc : (cxOf CX0 P w K mg base N_joined_labels "joined_labels" (defScope s_joined_labels) f cdv A outer s H E).nox.calm = true := rfl
  have hu : HU (cxOf CX0 P w K mg base N_joined_labels "joined_labels" (defScope s_joined_labels) f cdv A outer s H E).nox := .of hr
  have hu1 := hu_1 hu
  have hu64 := hu_64 hu
  have hu65 := hu_65 hu
  have hpo : PassesOwn (model (cxOf CX0 P w K mg base N_joined_labels "joined_labels" (defScope s_joined_labels) f cdv A outer s H E).nox.prog (cxOf CX0 P w K mg base N_joined_labels "joined_labels" (defScope s_joined_labels) f cdv A outer s H E).nox.w) (cxOf CX0 P w K mg base N_joined_labels "joined_labels" (defScope s_joined_labels) f cdv A outer s H E).nox.A (cxOf CX0 P w K mg base N_joined_labels "joined_labels" (defScope s_joined_labels) f cdv A outer s H E).nox.env (cxOf CX0 P w K mg base N_joined_labels "joined_labels" (defScope s_joined_labels) f cdv A outer s H E).nox.xe := PassesOwn.never
  exact (fss_cons (fs_set 2 (fe_of (fo_callTy co_list T.b_list (fab_cons (fb (fr_var .dat 0)) fab_nil))) nd) (fss_cons (fs_for hpo hc (fi_rng1 T.b_range (fa_cons (fe_binS ov_add (fe_callB (cv_max1 hu) T.b_max (fab_cons (fb (fr_var .dat 1)) fab_nil)) fe_int) fa_nil)) (fg_nm 3 nd) (fss_cons (fs_set 4 (fe_of (fo_lc [("label", 5), ("there", 6)] hc nd (fi_zip true false T.b_zip (fa_cons (fr_var .dat 2) (fa_cons (fr_var .dat 1) fa_nil))) (fun _ _ _ _ _ => (fg_tup (n := 2) hc (fg_cons (fg_nm 5 nd) (fg_cons (fg_nm 6 nd) fg_nil)))) (fun _ _ _ _ _ => (fts_one (ft_cmp (ov_eq hu64) (fb (fr_var .dat 6)) (fb (fr_var .dat 3))))) (fun _ _ _ _ _ => (fr_var .dat 5)))) nd) (fss_one (fs_wk (Un := []) (fs_setLc 2 [("label", 5)] hc nd (fi_l (fr_var .dat 2)) (fun _ _ _ _ _ => (fg_nm 5 nd)) (fun _ _ _ _ _ => fts_nil) (fun _ _ _ _ _ => (fr_if (ft_cmp (ov_in hu65) (fb (fr_var .dat 5)) (fb (fr_var .dat 4))) (fe_ix (fb (fr_var .dat 4)) fe_int) (fr_var .dat 5))) (sw_true rfl rfl rfl rfl)))))) (fss_one (fs_ret (fr_var .dat 2)))))
theorem ok_joined_labels {P : Program} {w : World} {K : PySem.W.Frag} {mg : Str → Option Value} {base : Heap} {f : Addr} {fd : FuncData}  (T : Tx mg) (F : Fun K "joined_labels" "joined_labels" s_joined_labels f fd)  :
    FnV P w K mg base CX0 1 f fd ["parting", "other"] (spP K [.dat, .dat] .dat fn_joined_labels) :=
  fn_P F sc_joined_labels rfl (fun i kk h => match i, h with | 0, h => by cases h; rfl | 1, h => by cases h; rfl | n + 2, h => by cases h) (fun cdv A outer s H E hgd hr => b_joined_labels T  cdv A outer s H E hgd hr) (.inl rfl)
theorem nd_blocks_hang : N_blocks_hang.Nodup := by decide +kernel
theorem sc_blocks_hang : FnScope N_blocks_hang ["parting", "other"] (defScope s_blocks_hang) := ⟨rfl, rfl, rfl, nd_blocks_hang, rfl, by decide +kernel, by decide +kernel⟩
theorem b_blocks_hang {P : Program} {w : World} {K : PySem.W.Frag} {mg : Str → Option Value} {base : Heap} {f : Addr} {f_joined_labels : Addr} {d_joined_labels : FuncData} {p_joined_labels : List Str} (T : Tx mg) (C_joined_labels : Fc P w K mg base "joined_labels" 1 f_joined_labels d_joined_labels p_joined_labels [.dat, .dat] .dat fn_joined_labels) (cdv : Value) (A : Around) (outer : List Env) (s : Shared) (H : Hp) (E : XK)
    (hgd : (A.deeper (PyProof.Rows.envOfC "blocks_hang" (defScope s_blocks_hang) s.heap.objs.size f cdv)).guards = some []) (hr : Room 1 (A.deeper (PyProof.Rows.envOfC "blocks_hang" (defScope s_blocks_hang) s.heap.objs.size f cdv))) :
    FSs (cxOf CX0 P w K mg base N_blocks_hang "blocks_hang" (defScope s_blocks_hang) f cdv A outer s H E).nox ⟨none, [], dk_blocks_hang, .dat, EN⟩ [] [] (defBody s_blocks_hang) S_blocks_hang [] := by
  have nd := nd_blocks_hang
  have hc : (cxOf CX0 P w K mg base N_blocks_hang "blocks_hang" (defScope s_blocks_hang) f cdv A outer s H E).nox.calm = true := rfl
  have hu : HU (cxOf CX0 P w K mg base N_blocks_hang "blocks_hang" (defScope s_blocks_hang) f cdv A outer s H E).nox := .of hr
  have hu1 := hu_1 hu
  have hu64 := hu_64 hu
  have hu65 := hu_65 hu
  exact (fss_one (fs_ret (fe_lenSet T.b_len T.b_set (fr_f C_joined_labels hgd (hr.mono (by decide)) (fa_cons (fr_var .dat 0) (fa_cons (fr_var .dat 1) fa_nil))))))
theorem ok_blocks_hang {P : Program} {w : World} {K : PySem.W.Frag} {mg : Str → Option Value} {base : Heap} {f : Addr} {fd : FuncData} {f_joined_labels : Addr} {d_joined_labels : FuncData} {p_joined_labels : List Str} (T : Tx mg) (F : Fun K "blocks_hang" "blocks_hang" s_blocks_hang f fd) (C_joined_labels : Fc P w K mg base "joined_labels" 1 f_joined_labels d_joined_labels p_joined_labels [.dat, .dat] .dat fn_joined_labels) :
    FnV P w K mg base CX0 2 f fd ["parting", "other"] (spP K [.dat, .dat] .dat fn_blocks_hang) :=
  fn_P F sc_blocks_hang rfl (fun i kk h => match i, h with | 0, h => by cases h; rfl | 1, h => by cases h; rfl | n + 2, h => by cases h) (fun cdv A outer s H E hgd hr => b_blocks_hang T C_joined_labels cdv A outer s H E hgd hr) (.inl rfl)
theorem nd_has_tree : N_has_tree.Nodup := by decide +kernel
theorem sc_has_tree : FnScope N_has_tree ["parting", "other"] (defScope s_has_tree) := ⟨rfl, rfl, rfl, nd_has_tree, rfl, by decide +kernel, by decide +kernel⟩
theorem b_has_tree {P : Program} {w : World} {K : PySem.W.Frag} {mg : Str → Option Value} {base : Heap} {f : Addr} {f_blocks_hang : Addr} {d_blocks_hang : FuncData} {p_blocks_hang : List Str} (T : Tx mg) (C_blocks_hang : Fc P w K mg base "blocks_hang" 2 f_blocks_hang d_blocks_hang p_blocks_hang [.dat, .dat] .dat fn_blocks_hang) (cdv : Value) (A : Around) (outer : List Env) (s : Shared) (H : Hp) (E : XK)
    (hgd : (A.deeper (PyProof.Rows.envOfC "has_tree" (defScope s_has_tree) s.heap.objs.size f cdv)).guards = some []) (hr : Room 2 (A.deeper (PyProof.Rows.envOfC "has_tree" (defScope s_has_tree) s.heap.objs.size f cdv))) :
    FSs (cxOf CX0 P w K mg base N_has_tree "has_tree" (defScope s_has_tree) f cdv A outer s H E).nox ⟨none, [], dk_has_tree, .dat, EN⟩ [] [] (defBody s_has_tree) S_has_tree [] := by
  have nd := nd_has_tree
  have hc : (cxOf CX0 P w K mg base N_has_tree "has_tree" (defScope s_has_tree) f cdv A outer s H E).nox.calm = true := rfl
  have hu : HU (cxOf CX0 P w K mg base N_has_tree "has_tree" (defScope s_has_tree) f cdv A outer s H E).nox := .of hr
  have hu1 := hu_1 hu
  have hu64 := hu_64 hu
  have hu65 := hu_65 hu
  exact (fss_one (fs_ret (fe_and (fe_cmp (ov_eq hu64) (fb (fe_binS ov_add (fe_binS ov_add (fe_callB (cv_max1 hu) T.b_max (fab_cons (fb (fr_var .dat 0)) fab_nil)) (fe_callB (cv_max1 hu) T.b_max (fab_cons (fb (fr_var .dat 1)) fab_nil))) fe_int)) (fb (fe_callB cv_len T.b_len (fab_cons (fb (fr_var .dat 0)) fab_nil)))) (fe_one (fe_cmp (ov_eq hu64) (fb (fr_f C_blocks_hang hgd (hr.mono (by decide)) (fa_cons (fr_var .dat 0) (fa_cons (fr_var .dat 1) fa_nil)))) (fb fe_int))))))
theorem ok_has_tree {P : Program} {w : World} {K : PySem.W.Frag} {mg : Str → Option Value} {base : Heap} {f : Addr} {fd : FuncData} {f_blocks_hang : Addr} {d_blocks_hang : FuncData} {p_blocks_hang : List Str} (T : Tx mg) (F : Fun K "has_tree" "has_tree" s_has_tree f fd) (C_blocks_hang : Fc P w K mg base "blocks_hang" 2 f_blocks_hang d_blocks_hang p_blocks_hang [.dat, .dat] .dat fn_blocks_hang) :
    FnV P w K mg base CX0 3 f fd ["parting", "other"] (spP K [.dat, .dat] .dat fn_has_tree) :=
  fn_P F sc_has_tree rfl (fun i kk h => match i, h with | 0, h => by cases h; rfl | 1, h => by cases h; rfl | n + 2, h => by cases h) (fun cdv A outer s H E hgd hr => b_has_tree T C_blocks_hang cdv A outer s H E hgd hr) (.inl rfl)
theorem nd_turned_of : N_turned_of.Nodup := by decide +kernel
theorem sc_turned_of : FnScope N_turned_of ["lot", "number"] (defScope s_turned_of) := ⟨rfl, rfl, rfl, nd_turned_of, rfl, by decide +kernel, by decide +kernel⟩
theorem b_turned_of {P : Program} {w : World} {K : PySem.W.Frag} {mg : Str → Option Value} {base : Heap} {f : Addr} {f_all_of : Addr} {d_all_of : FuncData} {p_all_of : List Str} {f_has_tree : Addr} {d_has_tree : FuncData} {p_has_tree : List Str} (T : Tx mg) (C_all_of : Fc P w K mg base "all_of" 1 f_all_of d_all_of p_all_of [.dat] .dat fn_all_of) (C_has_tree : Fc P w K mg base "has_tree" 3 f_has_tree d_has_tree p_has_tree [.dat, .dat] .dat fn_has_tree) (cdv : Value) (A : Around) (outer : List Env) (s : Shared) (H : Hp) (E : XK)
    (hgd : (A.deeper (PyProof.Rows.envOfC "turned_of" (defScope s_turned_of) s.heap.objs.size f cdv)).guards = some []) (hr : Room 3 (A.deeper (PyProof.Rows.envOfC "turned_of" (defScope s_turned_of) s.heap.objs.size f cdv))) :
    FSs (cxOf CX0 P w K mg base N_turned_of "turned_of" (defScope s_turned_of) f cdv A outer s H E).nox ⟨none, [], dk_turned_of, .dat, EN⟩ [] [] (defBody s_turned_of) S_turned_of [] := by
  have nd := nd_turned_of
  have hc : (cxOf CX0 P w K mg base N_turned_of "turned_of" (defScope s_turned_of) f cdv A outer s H E).nox.calm = true := rfl
  have hu : HU (cxOf CX0 P w K mg base N_turned_of "turned_of" (defScope s_turned_of) f cdv A outer s H E).nox := .of hr
  have hu1 := hu_1 hu
  have hu64 := hu_64 hu
  have hu65 := hu_65 hu
  have hpo : PassesOwn (model (cxOf CX0 P w K mg base N_turned_of "turned_of" (defScope s_turned_of) f cdv A outer s H E).nox.prog (cxOf CX0 P w K mg base N_turned_of "turned_of" (defScope s_turned_of) f cdv A outer s H E).nox.w) (cxOf CX0 P w K mg base N_turned_of "turned_of" (defScope s_turned_of) f cdv A outer s H E).nox.A (cxOf CX0 P w K mg base N_turned_of "turned_of" (defScope s_turned_of) f cdv A outer s H E).nox.env (cxOf CX0 P w K mg base N_turned_of "turned_of" (defScope s_turned_of) f cdv A outer s H E).nox.xe := PassesOwn.never
  exact (fss_cons (fs_set 2 (fr_f C_all_of hgd (hr.mono (by decide)) (fa_cons (fr_var .dat 1) fa_nil)) nd) (fss_cons (fs_for hpo hc (fi_t (fr_var .dat 0)) (fg_nm 3 nd) (fss_one (fs_wk (Un := []) (fs_setLc 2 [("parting", 4)] hc nd (fi_l (fr_var .dat 2)) (fun _ _ _ _ _ => (fg_nm 4 nd)) (fun _ _ _ _ _ => (fts_one (ft_val (fr_f C_has_tree hgd (hr.mono (by decide)) (fa_cons (fr_var .dat 4) (fa_cons (fr_var .dat 3) fa_nil)))))) (fun _ _ _ _ _ => (fr_var .dat 4)) (sw_true rfl rfl rfl rfl))))) (fss_one (fs_ret (fe_callTy cv_tuple T.b_tuple (fab_cons (fb (fr_var .dat 2)) fab_nil))))))
theorem ok_turned_of {P : Program} {w : World} {K : PySem.W.Frag} {mg : Str → Option Value} {base : Heap} {f : Addr} {fd : FuncData} {f_all_of : Addr} {d_all_of : FuncData} {p_all_of : List Str} {f_has_tree : Addr} {d_has_tree : FuncData} {p_has_tree : List Str} (T : Tx mg) (F : Fun K "turned_of" "turned_of" s_turned_of f fd) (C_all_of : Fc P w K mg base "all_of" 1 f_all_of d_all_of p_all_of [.dat] .dat fn_all_of) (C_has_tree : Fc P w K mg base "has_tree" 3 f_has_tree d_has_tree p_has_tree [.dat, .dat] .dat fn_has_tree) :
    FnV P w K mg base CX0 4 f fd ["lot", "number"] (spP K [.dat, .dat] .dat fn_turned_of) :=
  fn_P F sc_turned_of rfl (fun i kk h => match i, h with | 0, h => by cases h; rfl | 1, h => by cases h; rfl | n + 2, h => by cases h) (fun cdv A outer s H E hgd hr => b_turned_of T C_all_of C_has_tree cdv A outer s H E hgd hr) (.inl rfl)
theorem nd_closed_of : N_closed_of.Nodup := by decide +kernel
theorem sc_closed_of : FnScope N_closed_of ["lot", "number"] (defScope s_closed_of) := ⟨rfl, rfl, rfl, nd_closed_of, rfl, by decide +kernel, by decide +kernel⟩
theorem b_closed_of {P : Program} {w : World} {K : PySem.W.Frag} {mg : Str → Option Value} {base : Heap} {f : Addr} {f_turned_of : Addr} {d_turned_of : FuncData} {p_turned_of : List Str} (T : Tx mg) (C_turned_of : Fc P w K mg base "turned_of" 4 f_turned_of d_turned_of p_turned_of [.dat, .dat] .dat fn_turned_of) (cdv : Value) (A : Around) (outer : List Env) (s : Shared) (H : Hp) (E : XK)
    (hgd : (A.deeper (PyProof.Rows.envOfC "closed_of" (defScope s_closed_of) s.heap.objs.size f cdv)).guards = some []) (hr : Room 4 (A.deeper (PyProof.Rows.envOfC "closed_of" (defScope s_closed_of) s.heap.objs.size f cdv))) :
    FSs (cxOf CX0 P w K mg base N_closed_of "closed_of" (defScope s_closed_of) f cdv A outer s H E).nox ⟨none, [], dk_closed_of, .dat, EN⟩ [] [] (defBody s_closed_of) S_closed_of [] := by
  have nd := nd_closed_of
  have hc : (cxOf CX0 P w K mg base N_closed_of "closed_of" (defScope s_closed_of) f cdv A outer s H E).nox.calm = true := rfl
  have hu : HU (cxOf CX0 P w K mg base N_closed_of "closed_of" (defScope s_closed_of) f cdv A outer s H E).nox := .of hr
  have hu1 := hu_1 hu
  have hu64 := hu_64 hu
  have hu65 := hu_65 hu
  exact (fss_one (fs_ret (fr_f C_turned_of hgd (hr.mono (by decide)) (fa_cons (fr_f C_turned_of hgd (hr.mono (by decide)) (fa_cons (fr_var .dat 0) (fa_cons (fr_var .dat 1) fa_nil))) (fa_cons (fr_var .dat 1) fa_nil)))))
theorem ok_closed_of {P : Program} {w : World} {K : PySem.W.Frag} {mg : Str → Option Value} {base : Heap} {f : Addr} {fd : FuncData} {f_turned_of : Addr} {d_turned_of : FuncData} {p_turned_of : List Str} (T : Tx mg) (F : Fun K "closed_of" "closed_of" s_closed_of f fd) (C_turned_of : Fc P w K mg base "turned_of" 4 f_turned_of d_turned_of p_turned_of [.dat, .dat] .dat fn_turned_of) :
    FnV P w K mg base CX0 5 f fd ["lot", "number"] (spP K [.dat, .dat] .dat fn_closed_of) :=
  fn_P F sc_closed_of rfl (fun i kk h => match i, h with | 0, h => by cases h; rfl | 1, h => by cases h; rfl | n + 2, h => by cases h) (fun cdv A outer s H E hgd hr => b_closed_of T C_turned_of cdv A outer s H E hgd hr) (.inl rfl)
theorem nd_turned : N_turned.Nodup := by decide +kernel
theorem sc_turned : FnScope N_turned ["lot", "number"] (defScope s_turned) := ⟨rfl, rfl, rfl, nd_turned, rfl, by decide +kernel, by decide +kernel⟩
theorem b_turned {P : Program} {w : World} {K : PySem.W.Frag} {mg : Str → Option Value} {base : Heap} {f : Addr} {f_turned_of : Addr} {d_turned_of : FuncData} {p_turned_of : List Str} {f_need_lot : Addr} {d_need_lot : FuncData} {p_need_lot : List Str} (T : Tx mg) (C_turned_of : Fc P w K mg base "turned_of" 4 f_turned_of d_turned_of p_turned_of [.dat, .dat] .dat fn_turned_of) (C_need_lot : FcX P w K mg base "need_lot" 6 f_need_lot d_need_lot p_need_lot [.dat, .dat] .dat fn_need_lot) (cdv : Value) (A : Around) (outer : List Env) (s : Shared) (H : Hp) (E : XK)
    (hgd : (A.deeper (PyProof.Rows.envOfC "turned" (defScope s_turned) s.heap.objs.size f cdv)).guards = some []) (hr : Room 6 (A.deeper (PyProof.Rows.envOfC "turned" (defScope s_turned) s.heap.objs.size f cdv))) :
    FSs (cxOf (L2.CX P w) P w K mg base N_turned "turned" (defScope s_turned) f cdv A outer s H E) ⟨none, [], dk_turned, .dat, fun _ => E⟩ [] [] (defBody s_turned) S_turned [] := by
  have nd := nd_turned
  have hc : (cxOf (L2.CX P w) P w K mg base N_turned "turned" (defScope s_turned) f cdv A outer s H E).calm = true := rfl
  have hu : HU (cxOf (L2.CX P w) P w K mg base N_turned "turned" (defScope s_turned) f cdv A outer s H E) := .of hr
  have hu1 := hu_1 hu
  have hu64 := hu_64 hu
  have hu65 := hu_65 hu
  have tk : TkX (cxOf (L2.CX P w) P w K mg base N_turned "turned" (defScope s_turned) f cdv A outer s H E) ⟨none, [], dk_turned, .dat, fun _ => E⟩ := takes_cx
  exact (fss_one (fs_ret (fr_f C_turned_of hgd (hr.mono (by decide)) (fa_cons (fr_fX C_need_lot tk hgd (hr.mono (by decide)) (fa_cons (fr_var .dat 0) (fa_cons (fr_var .dat 1) fa_nil))) (fa_cons (fr_var .dat 1) fa_nil)))))
theorem ok_turned {P : Program} {w : World} {K : PySem.W.Frag} {mg : Str → Option Value} {base : Heap} {f : Addr} {fd : FuncData} {f_turned_of : Addr} {d_turned_of : FuncData} {p_turned_of : List Str} {f_need_lot : Addr} {d_need_lot : FuncData} {p_need_lot : List Str} (T : Tx mg) (F : Fun K "turned" "turned" s_turned f fd) (C_turned_of : Fc P w K mg base "turned_of" 4 f_turned_of d_turned_of p_turned_of [.dat, .dat] .dat fn_turned_of) (C_need_lot : FcX P w K mg base "need_lot" 6 f_need_lot d_need_lot p_need_lot [.dat, .dat] .dat fn_need_lot) :
    FnV P w K mg base (L2.CX P w) 7 f fd ["lot", "number"] (spPX K mg [.dat, .dat] .dat fn_turned) :=
  fn_PX F sc_turned rfl (fun i kk h => match i, h with | 0, h => by cases h; rfl | 1, h => by cases h; rfl | n + 2, h => by cases h) (fun cdv A outer s H E hgd hr => b_turned T C_turned_of C_need_lot cdv A outer s H E hgd hr) (.inl rfl)
theorem nd_closed : N_closed.Nodup := by decide +kernel
theorem sc_closed : FnScope N_closed ["lot", "number"] (defScope s_closed) := ⟨rfl, rfl, rfl, nd_closed, rfl, by decide +kernel, by decide +kernel⟩
theorem b_closed {P : Program} {w : World} {K : PySem.W.Frag} {mg : Str → Option Value} {base : Heap} {f : Addr} {f_closed_of : Addr} {d_closed_of : FuncData} {p_closed_of : List Str} {f_need_lot : Addr} {d_need_lot : FuncData} {p_need_lot : List Str} (T : Tx mg) (C_closed_of : Fc P w K mg base "closed_of" 5 f_closed_of d_closed_of p_closed_of [.dat, .dat] .dat fn_closed_of) (C_need_lot : FcX P w K mg base "need_lot" 6 f_need_lot d_need_lot p_need_lot [.dat, .dat] .dat fn_need_lot) (cdv : Value) (A : Around) (outer : List Env) (s : Shared) (H : Hp) (E : XK)
    (hgd : (A.deeper (PyProof.Rows.envOfC "closed" (defScope s_closed) s.heap.objs.size f cdv)).guards = some []) (hr : Room 6 (A.deeper (PyProof.Rows.envOfC "closed" (defScope s_closed) s.heap.objs.size f cdv))) :
    FSs (cxOf (L2.CX P w) P w K mg base N_closed "closed" (defScope s_closed) f cdv A outer s H E) ⟨none, [], dk_closed, .dat, fun _ => E⟩ [] [] (defBody s_closed) S_closed [] := by
  have nd := nd_closed
  have hc : (cxOf (L2.CX P w) P w K mg base N_closed "closed" (defScope s_closed) f cdv A outer s H E).calm = true := rfl
  have hu : HU (cxOf (L2.CX P w) P w K mg base N_closed "closed" (defScope s_closed) f cdv A outer s H E) := .of hr
  have hu1 := hu_1 hu
  have hu64 := hu_64 hu
  have hu65 := hu_65 hu
  have tk : TkX (cxOf (L2.CX P w) P w K mg base N_closed "closed" (defScope s_closed) f cdv A outer s H E) ⟨none, [], dk_closed, .dat, fun _ => E⟩ := takes_cx
  exact (fss_one (fs_ret (fr_f C_closed_of hgd (hr.mono (by decide)) (fa_cons (fr_fX C_need_lot tk hgd (hr.mono (by decide)) (fa_cons (fr_var .dat 0) (fa_cons (fr_var .dat 1) fa_nil))) (fa_cons (fr_var .dat 1) fa_nil)))))
theorem ok_closed {P : Program} {w : World} {K : PySem.W.Frag} {mg : Str → Option Value} {base : Heap} {f : Addr} {fd : FuncData} {f_closed_of : Addr} {d_closed_of : FuncData} {p_closed_of : List Str} {f_need_lot : Addr} {d_need_lot : FuncData} {p_need_lot : List Str} (T : Tx mg) (F : Fun K "closed" "closed" s_closed f fd) (C_closed_of : Fc P w K mg base "closed_of" 5 f_closed_of d_closed_of p_closed_of [.dat, .dat] .dat fn_closed_of) (C_need_lot : FcX P w K mg base "need_lot" 6 f_need_lot d_need_lot p_need_lot [.dat, .dat] .dat fn_need_lot) :
    FnV P w K mg base (L2.CX P w) 7 f fd ["lot", "number"] (spPX K mg [.dat, .dat] .dat fn_closed) :=
  fn_PX F sc_closed rfl (fun i kk h => match i, h with | 0, h => by cases h; rfl | 1, h => by cases h; rfl | n + 2, h => by cases h) (fun cdv A outer s H E hgd hr => b_closed T C_closed_of C_need_lot cdv A outer s H E hgd hr) (.inl rfl)
theorem nd_is_closed : N_is_closed.Nodup := by decide +kernel
theorem sc_is_closed : FnScope N_is_closed ["lot", "number"] (defScope s_is_closed) := ⟨rfl, rfl, rfl, nd_is_closed, rfl, by decide +kernel, by decide +kernel⟩
theorem b_is_closed {P : Program} {w : World} {K : PySem.W.Frag} {mg : Str → Option Value} {base : Heap} {f : Addr} {f_closed_of : Addr} {d_closed_of : FuncData} {p_closed_of : List Str} {f_need_lot : Addr} {d_need_lot : FuncData} {p_need_lot : List Str} (T : Tx mg) (C_closed_of : Fc P w K mg base "closed_of" 5 f_closed_of d_closed_of p_closed_of [.dat, .dat] .dat fn_closed_of) (C_need_lot : FcX P w K mg base "need_lot" 6 f_need_lot d_need_lot p_need_lot [.dat, .dat] .dat fn_need_lot) (cdv : Value) (A : Around) (outer : List Env) (s : Shared) (H : Hp) (E : XK)
    (hgd : (A.deeper (PyProof.Rows.envOfC "is_closed" (defScope s_is_closed) s.heap.objs.size f cdv)).guards = some []) (hr : Room 6 (A.deeper (PyProof.Rows.envOfC "is_closed" (defScope s_is_closed) s.heap.objs.size f cdv))) :
    FSs (cxOf (L2.CX P w) P w K mg base N_is_closed "is_closed" (defScope s_is_closed) f cdv A outer s H E) ⟨none, [], dk_is_closed, .dat, fun _ => E⟩ [] [] (defBody s_is_closed) S_is_closed [] := by
  have nd := nd_is_closed
  have hc : (cxOf (L2.CX P w) P w K mg base N_is_closed "is_closed" (defScope s_is_closed) f cdv A outer s H E).calm = true := rfl
  have hu : HU (cxOf (L2.CX P w) P w K mg base N_is_closed "is_closed" (defScope s_is_closed) f cdv A outer s H E) := .of hr
  have hu1 := hu_1 hu
  have hu64 := hu_64 hu
  have hu65 := hu_65 hu
  have tk : TkX (cxOf (L2.CX P w) P w K mg base N_is_closed "is_closed" (defScope s_is_closed) f cdv A outer s H E) ⟨none, [], dk_is_closed, .dat, fun _ => E⟩ := takes_cx
  exact (fss_one (fs_ret (fe_cmp (ov_eq hu64) (fb (fr_f C_closed_of hgd (hr.mono (by decide)) (fa_cons (fr_fX C_need_lot tk hgd (hr.mono (by decide)) (fa_cons (fr_var .dat 0) (fa_cons (fr_var .dat 1) fa_nil))) (fa_cons (fr_var .dat 1) fa_nil)))) (fb (fr_var .dat 0)))))
theorem ok_is_closed {P : Program} {w : World} {K : PySem.W.Frag} {mg : Str → Option Value} {base : Heap} {f : Addr} {fd : FuncData} {f_closed_of : Addr} {d_closed_of : FuncData} {p_closed_of : List Str} {f_need_lot : Addr} {d_need_lot : FuncData} {p_need_lot : List Str} (T : Tx mg) (F : Fun K "is_closed" "is_closed" s_is_closed f fd) (C_closed_of : Fc P w K mg base "closed_of" 5 f_closed_of d_closed_of p_closed_of [.dat, .dat] .dat fn_closed_of) (C_need_lot : FcX P w K mg base "need_lot" 6 f_need_lot d_need_lot p_need_lot [.dat, .dat] .dat fn_need_lot) :
    FnV P w K mg base (L2.CX P w) 7 f fd ["lot", "number"] (spPX K mg [.dat, .dat] .dat fn_is_closed) :=
  fn_PX F sc_is_closed rfl (fun i kk h => match i, h with | 0, h => by cases h; rfl | 1, h => by cases h; rfl | n + 2, h => by cases h) (fun cdv A outer s H E hgd hr => b_is_closed T C_closed_of C_need_lot cdv A outer s H E hgd hr) (.inl rfl)
theorem nd__law_mixed : N__law_mixed.Nodup := by decide +kernel
theorem sc__law_mixed : FnScope N__law_mixed ["_law_cell", "_law_n"] (defScope s__law_mixed) := ⟨rfl, rfl, rfl, nd__law_mixed, rfl, by decide +kernel, by decide +kernel⟩
theorem b__law_mixed {P : Program} {w : World} {K : PySem.W.Frag} {mg : Str → Option Value} {base : Heap} {f : Addr}  (T : Tx mg)  (cdv : Value) (A : Around) (outer : List Env) (s : Shared) (H : Hp) (E : XK)
    (hgd : (A.deeper (PyProof.Rows.envOfC "_law_mixed" (defScope s__law_mixed) s.heap.objs.size f cdv)).guards = some []) (hr : Room 0 (A.deeper (PyProof.Rows.envOfC "_law_mixed" (defScope s__law_mixed) s.heap.objs.size f cdv))) :
    FSs (cxOf CX0 P w K mg base N__law_mixed "_law_mixed" (defScope s__law_mixed) f cdv A outer s H E).nox ⟨none, [], dk__law_mixed, .dat, EN⟩ [] [] (defBody s__law_mixed) S__law_mixed [] := by
  have nd := nd__law_mixed
  have hc : (cxOf CX0 P w K mg base N__law_mixed "_law_mixed" (defScope s__law_mixed) f cdv A outer s H E).nox.calm = true := rfl
  have hu : HU (cxOf CX0 P w K mg base N__law_mixed "_law_mixed" (defScope s__law_mixed) f cdv A outer s H E).nox := .of hr
  have hu1 := hu_1 hu
  have hu64 := hu_64 hu
  have hu65 := hu_65 hu
  exact (fss_cons (fs_set 2 (fe_binS ov_add (fe_binS ov_add (fe_bin ov_mod (fb (fe_callTy cv_int T.b_int (fab_cons (fb (fe_bin ov_mul (fb (fe_bin ov_mul (fb (fr_var .dat 0)) (fb (fe_binS ov_add fe_int (fe_bin ov_mul (fb fe_int) (fb (fr_var .dat 1))))))) (fb fe_int))) fab_nil))) (fb fe_int)) (fe_bin ov_mul (fb (fe_bin ov_mul (fb fe_int) (fb (fr_var .dat 1)))) (fb (fr_var .dat 1)))) (fe_bin ov_mul (fb fe_int) (fb (fr_var .dat 1)))) nd) (fss_one (fs_ret (fe_bin ov_fdiv (fb (fe_bin ov_mod (fb (fe_callTy cv_int T.b_int (fab_cons (fb (fe_bin ov_mul (fb (fr_var .dat 2)) (fb fe_int))) fab_nil))) (fb fe_int))) (fb fe_int)))))
theorem ok__law_mixed {P : Program} {w : World} {K : PySem.W.Frag} {mg : Str → Option Value} {base : Heap} {f : Addr} {fd : FuncData}  (T : Tx mg) (F : Fun K "_law_mixed" "_law_mixed" s__law_mixed f fd)  :
    FnV P w K mg base CX0 1 f fd ["_law_cell", "_law_n"] (spP K [.dat, .dat] .dat fn__law_mixed) :=
  fn_P F sc__law_mixed rfl (fun i kk h => match i, h with | 0, h => by cases h; rfl | 1, h => by cases h; rfl | n + 2, h => by cases h) (fun cdv A outer s H E hgd hr => b__law_mixed T  cdv A outer s H E hgd hr) (.inl rfl)
theorem nd__law_folded : N__law_folded.Nodup := by decide +kernel
theorem sc__law_folded : FnScope N__law_folded ["_law_script"] (defScope s__law_folded) := ⟨rfl, rfl, rfl, nd__law_folded, rfl, by decide +kernel, by decide +kernel⟩
theorem b__law_folded {P : Program} {w : World} {K : PySem.W.Frag} {mg : Str → Option Value} {base : Heap} {f : Addr}  (T : Tx mg)  (cdv : Value) (A : Around) (outer : List Env) (s : Shared) (H : Hp) (E : XK)
    (hgd : (A.deeper (PyProof.Rows.envOfC "_law_folded" (defScope s__law_folded) s.heap.objs.size f cdv)).guards = some []) (hr : Room 0 (A.deeper (PyProof.Rows.envOfC "_law_folded" (defScope s__law_folded) s.heap.objs.size f cdv))) :
    FSs (cxOf CX0 P w K mg base N__law_folded "_law_folded" (defScope s__law_folded) f cdv A outer s H E).nox ⟨none, [], dk__law_folded, .dat, EN⟩ [] [] (defBody s__law_folded) S__law_folded [1] := by
  have nd := nd__law_folded
  have hc : (cxOf CX0 P w K mg base N__law_folded "_law_folded" (defScope s__law_folded) f cdv A outer s H E).nox.calm = true := rfl
  have hu : HU (cxOf CX0 P w K mg base N__law_folded "_law_folded" (defScope s__law_folded) f cdv A outer s H E).nox := .of hr
  have hu1 := hu_1 hu
  have hu64 := hu_64 hu
  have hu65 := hu_65 hu
  have hpo : PassesOwn (model (cxOf CX0 P w K mg base N__law_folded "_law_folded" (defScope s__law_folded) f cdv A outer s H E).nox.prog (cxOf CX0 P w K mg base N__law_folded "_law_folded" (defScope s__law_folded) f cdv A outer s H E).nox.w) (cxOf CX0 P w K mg base N__law_folded "_law_folded" (defScope s__law_folded) f cdv A outer s H E).nox.A (cxOf CX0 P w K mg base N__law_folded "_law_folded" (defScope s__law_folded) f cdv A outer s H E).nox.env (cxOf CX0 P w K mg base N__law_folded "_law_folded" (defScope s__law_folded) f cdv A outer s H E).nox.xe := PassesOwn.never
  exact (fss_cons (fs_setLc 1 [("_law_n", 2)] hc nd (fi_rng1 T.b_range (fa_cons fe_int fa_nil)) (fun _ _ _ _ _ => (fg_nm 2 nd)) (fun _ _ _ _ _ => fts_nil) (fun _ _ _ _ _ => (fe_binS ov_add fe_int (fr_var .dat 2))) (sw_true rfl rfl rfl rfl)) (fss_cons (fs_for hpo hc (fi_enum true T.b_enumerate (fa_cons (fr_var .dat 0) fa_nil)) (fg_tup (n := 2) hc (fg_cons (fg_nm 2 nd) (fg_cons (fg_nm 3 nd) fg_nil))) (fss_one (fs_setIx 1 (fe_bin ov_mod (fb (fe_callTy cv_int T.b_int (fab_cons (fb (fr_var .dat 2)) fab_nil))) (fb fe_int)) (fe_bin ov_mod (fb (fe_callTy cv_int T.b_int (fab_cons (fb (fe_binS ov_add (fe_bin ov_mul (fb (fe_ix (fb_own 1) (fe_bin ov_mod (fb (fe_callTy cv_int T.b_int (fab_cons (fb (fr_var .dat 2)) fab_nil))) (fb fe_int)))) (fb fe_int)) (fr_var .dat 3))) fab_nil))) (fb fe_int))))) (fss_cons (fs_for hpo hc (fi_rng2 T.b_range (fa_cons fe_int (fa_cons fe_int fa_nil))) (fg_nm 2 nd) (fss_one (fs_setIx 1 (fr_var .dat 2) (fe_bin ov_mod (fb (fe_callTy cv_int T.b_int (fab_cons (fb (fe_binS ov_add (fe_ix (fb_own 1) (fr_var .dat 2)) (fe_bin ov_mul (fb (fe_ix (fb_own 1) (fe_bin ov_sub (fb (fr_var .dat 2)) (fb fe_int)))) (fb fe_int)))) fab_nil))) (fb fe_int))))) (fss_one (fs_fz [] (fs_ret (fr_var .dat 1)))))))
theorem ok__law_folded {P : Program} {w : World} {K : PySem.W.Frag} {mg : Str → Option Value} {base : Heap} {f : Addr} {fd : FuncData}  (T : Tx mg) (F : Fun K "_law_folded" "_law_folded" s__law_folded f fd)  :
    FnV P w K mg base CX0 1 f fd ["_law_script"] (spP K [.dat] .dat fn__law_folded) :=
  fn_P F sc__law_folded rfl (fun i kk h => match i, h with | 0, h => by cases h; rfl | n + 1, h => by cases h) (fun cdv A outer s H E hgd hr => b__law_folded T  cdv A outer s H E hgd hr) (.inl rfl)
theorem nd__law_like : N__law_like.Nodup := by decide +kernel
theorem sc__law_like : FnScope N__law_like ["_law_got", "_law_due"] (defScope s__law_like) := ⟨rfl, rfl, rfl, nd__law_like, rfl, by decide +kernel, by decide +kernel⟩
theorem b__law_like {P : Program} {w : World} {K : PySem.W.Frag} {mg : Str → Option Value} {base : Heap} {f : Addr}  (T : Tx mg)  (cdv : Value) (A : Around) (outer : List Env) (s : Shared) (H : Hp) (E : XK)
    (hgd : (A.deeper (PyProof.Rows.envOfC "_law_like" (defScope s__law_like) s.heap.objs.size f cdv)).guards = some []) (hr : Room 0 (A.deeper (PyProof.Rows.envOfC "_law_like" (defScope s__law_like) s.heap.objs.size f cdv))) :
    FSs (cxOf CX0 P w K mg base N__law_like "_law_like" (defScope s__law_like) f cdv A outer s H E).nox ⟨none, [], dk__law_like, .dat, EN⟩ [] [] (defBody s__law_like) S__law_like [] := by
  have nd := nd__law_like
  have hc : (cxOf CX0 P w K mg base N__law_like "_law_like" (defScope s__law_like) f cdv A outer s H E).nox.calm = true := rfl
  have hu : HU (cxOf CX0 P w K mg base N__law_like "_law_like" (defScope s__law_like) f cdv A outer s H E).nox := .of hr
  have hu1 := hu_1 hu
  have hu64 := hu_64 hu
  have hu65 := hu_65 hu
  exact (fss_one (fs_ret (fe_cmp (ov_eq hu64) (fb (fe_callB (cv_repr hu hgd) T.b_repr (fab_cons (fb (fr_var .dat 0)) fab_nil))) (fb (fe_callB (cv_repr hu hgd) T.b_repr (fab_cons (fb (fr_var .dat 1)) fab_nil))))))
theorem ok__law_like {P : Program} {w : World} {K : PySem.W.Frag} {mg : Str → Option Value} {base : Heap} {f : Addr} {fd : FuncData}  (T : Tx mg) (F : Fun K "_law_like" "_law_like" s__law_like f fd)  :
    FnV P w K mg base CX0 1 f fd ["_law_got", "_law_due"] (spP K [.dat, .dat] .dat fn__law_like) :=
  fn_P F sc__law_like rfl (fun i kk h => match i, h with | 0, h => by cases h; rfl | 1, h => by cases h; rfl | n + 2, h => by cases h) (fun cdv A outer s H E hgd hr => b__law_like T  cdv A outer s H E hgd hr) (.inl rfl)
theorem nd__law_of : N__law_of.Nodup := by decide +kernel
theorem sc__law_of : FnScope N__law_of ["_law_m", "_law_some"] (defScope s__law_of) := ⟨rfl, rfl, rfl, nd__law_of, rfl, by decide +kernel, by decide +kernel⟩
theorem b__law_of {P : Program} {w : World} {K : PySem.W.Frag} {mg : Str → Option Value} {base : Heap} {f : Addr} {f__law_draw : Addr} {d__law_draw : FuncData} {p__law_draw : List Str} (T : Tx mg) (C__law_draw : FcM P w K mg base "_law_draw" 3 f__law_draw d__law_draw p__law_draw [.dat] .dat fn__law_draw) (W : Wd) (cdv : Value) (A : Around) (outer : List Env) (s : Shared) (H : Hp) (E : XK)
    (hgd : (A.deeper (PyProof.Rows.envOfC "_law_of" (defScope s__law_of) s.heap.objs.size f cdv)).guards = some []) (hr : Room 3 (A.deeper (PyProof.Rows.envOfC "_law_of" (defScope s__law_of) s.heap.objs.size f cdv))) :
    FSs (cxOf CX0 P w K mg base N__law_of "_law_of" (defScope s__law_of) f cdv A outer s H E).nox ⟨some W, [0], dk__law_of, .dat, EN⟩ [] [] (defBody s__law_of) S__law_of [] := by
  have nd := nd__law_of
  have hc : (cxOf CX0 P w K mg base N__law_of "_law_of" (defScope s__law_of) f cdv A outer s H E).nox.calm = true := rfl
  have hu : HU (cxOf CX0 P w K mg base N__law_of "_law_of" (defScope s__law_of) f cdv A outer s H E).nox := .of hr
  have hu1 := hu_1 hu
  have hu64 := hu_64 hu
  have hu65 := hu_65 hu
  have hW : (⟨some W, [0], dk__law_of, .dat, EN⟩ : Ct).W = some W := rfl
  exact (fss_one (fs_ret (fe_ix (fb (fr_var .dat 1)) (fr_m 0 hW C__law_draw hgd (hr.mono (by decide)) (fa_cons (fe_callB cv_len T.b_len (fab_cons (fb (fr_var .dat 1)) fab_nil)) fa_nil)))))
theorem ok__law_of {P : Program} {w : World} {K : PySem.W.Frag} {mg : Str → Option Value} {base : Heap} {f : Addr} {fd : FuncData} {f__law_draw : Addr} {d__law_draw : FuncData} {p__law_draw : List Str} (T : Tx mg) (F : Fun K "_law_of" "_law_of" s__law_of f fd) (C__law_draw : FcM P w K mg base "_law_draw" 3 f__law_draw d__law_draw p__law_draw [.dat] .dat fn__law_draw) :
    FnV P w K mg base CX0 4 f fd ["_law_m", "_law_some"] (spM K [.dat] .dat fn__law_of) :=
  fn_M F sc__law_of rfl (fun i kk h => match i, h with | 0, h => by cases h; rfl | n + 1, h => by cases h) (fun W cdv A outer s H E hgd hr => b__law_of T C__law_draw W cdv A outer s H E hgd hr) (.inl rfl)
theorem nd__law_numbered : N__law_numbered.Nodup := by decide +kernel
theorem sc__law_numbered : FnScope N__law_numbered ["_law_labels"] (defScope s__law_numbered) := ⟨rfl, rfl, rfl, nd__law_numbered, rfl, by decide +kernel, by decide +kernel⟩
theorem b__law_numbered {P : Program} {w : World} {K : PySem.W.Frag} {mg : Str → Option Value} {base : Heap} {f : Addr}  (T : Tx mg)  (cdv : Value) (A : Around) (outer : List Env) (s : Shared) (H : Hp) (E : XK)
    (hgd : (A.deeper (PyProof.Rows.envOfC "_law_numbered" (defScope s__law_numbered) s.heap.objs.size f cdv)).guards = some []) (hr : Room 0 (A.deeper (PyProof.Rows.envOfC "_law_numbered" (defScope s__law_numbered) s.heap.objs.size f cdv))) :
    FSs (cxOf CX0 P w K mg base N__law_numbered "_law_numbered" (defScope s__law_numbered) f cdv A outer s H E).nox ⟨none, [], dk__law_numbered, .dat, EN⟩ [] [] (defBody s__law_numbered) S__law_numbered [2, 3] := by
  have nd := nd__law_numbered
  have hc : (cxOf CX0 P w K mg base N__law_numbered "_law_numbered" (defScope s__law_numbered) f cdv A outer s H E).nox.calm = true := rfl
  have hu : HU (cxOf CX0 P w K mg base N__law_numbered "_law_numbered" (defScope s__law_numbered) f cdv A outer s H E).nox := .of hr
  have hu1 := hu_1 hu
  have hu64 := hu_64 hu
  have hu65 := hu_65 hu
  have hpo : PassesOwn (model (cxOf CX0 P w K mg base N__law_numbered "_law_numbered" (defScope s__law_numbered) f cdv A outer s H E).nox.prog (cxOf CX0 P w K mg base N__law_numbered "_law_numbered" (defScope s__law_numbered) f cdv A outer s H E).nox.w) (cxOf CX0 P w K mg base N__law_numbered "_law_numbered" (defScope s__law_numbered) f cdv A outer s H E).nox.A (cxOf CX0 P w K mg base N__law_numbered "_law_numbered" (defScope s__law_numbered) f cdv A outer s H E).nox.env (cxOf CX0 P w K mg base N__law_numbered "_law_numbered" (defScope s__law_numbered) f cdv A outer s H E).nox.xe := PassesOwn.never
  exact (fss_cons (fs_wk (Un := [2, 3]) (fs_parO 2 3 hc nd fo_dicK (fo_lst (n := 0) fa_nil))) (fss_cons (fs_for hpo hc (fi_l (fr_var .dat 0)) (fg_nm 1 nd) (fss_cons (fs_if (Un := [2, 3]) (ft_dninK 2 hu1 (fr_var .dat 1)) (fss_one (fs_dputK 2 hu1 (fr_var .dat 1) (fe_lenK 2 T.b_len))) fss_nil) (fss_one (fs_append 3 (fe_dgK 2 hu1 (fr_var .dat 1)))))) (fss_one (fs_ret (fe_callTy cv_tuple T.b_tuple (fab_cons (fb_own 3) fab_nil))))))
theorem ok__law_numbered {P : Program} {w : World} {K : PySem.W.Frag} {mg : Str → Option Value} {base : Heap} {f : Addr} {fd : FuncData}  (T : Tx mg) (F : Fun K "_law_numbered" "_law_numbered" s__law_numbered f fd)  :
    FnV P w K mg base CX0 1 f fd ["_law_labels"] (spP K [.dat] .dat fn__law_numbered) :=
  fn_P F sc__law_numbered rfl (fun i kk h => match i, h with | 0, h => by cases h; rfl | n + 1, h => by cases h) (fun cdv A outer s H E hgd hr => b__law_numbered T  cdv A outer s H E hgd hr) (.inl rfl)
theorem nd__law_partings : N__law_partings.Nodup := by decide +kernel
theorem sc__law_partings : FnScope N__law_partings ["_law_many"] (defScope s__law_partings) := ⟨rfl, rfl, rfl, nd__law_partings, rfl, by decide +kernel, by decide +kernel⟩
theorem b__law_partings {P : Program} {w : World} {K : PySem.W.Frag} {mg : Str → Option Value} {base : Heap} {f : Addr}  (T : Tx mg)  (cdv : Value) (A : Around) (outer : List Env) (s : Shared) (H : Hp) (E : XK)
    (hgd : (A.deeper (PyProof.Rows.envOfC "_law_partings" (defScope s__law_partings) s.heap.objs.size f cdv)).guards = some []) (hr : Room 0 (A.deeper (PyProof.Rows.envOfC "_law_partings" (defScope s__law_partings) s.heap.objs.size f cdv))) :
    FSs (cxOf CX0 P w K mg base N__law_partings "_law_partings" (defScope s__law_partings) f cdv A outer s H E).nox ⟨none, [], dk__law_partings, .dat, EN⟩ [] [] (defBody s__law_partings) S__law_partings [] := by
  have nd := nd__law_partings
  have hc : (cxOf CX0 P w K mg base N__law_partings "_law_partings" (defScope s__law_partings) f cdv A outer s H E).nox.calm = true := rfl
  have hu : HU (cxOf CX0 P w K mg base N__law_partings "_law_partings" (defScope s__law_partings) f cdv A outer s H E).nox := .of hr
  have hu1 := hu_1 hu
  have hu64 := hu_64 hu
  have hu65 := hu_65 hu
  have hpo : PassesOwn (model (cxOf CX0 P w K mg base N__law_partings "_law_partings" (defScope s__law_partings) f cdv A outer s H E).nox.prog (cxOf CX0 P w K mg base N__law_partings "_law_partings" (defScope s__law_partings) f cdv A outer s H E).nox.w) (cxOf CX0 P w K mg base N__law_partings "_law_partings" (defScope s__law_partings) f cdv A outer s H E).nox.A (cxOf CX0 P w K mg base N__law_partings "_law_partings" (defScope s__law_partings) f cdv A outer s H E).nox.env (cxOf CX0 P w K mg base N__law_partings "_law_partings" (defScope s__law_partings) f cdv A outer s H E).nox.xe := PassesOwn.never
  exact (fss_cons (fs_set 1 (fe_of (fo_lst (n := 1) (fa_cons (fe_tup (n := 1) (fa_cons fe_int fa_nil)) fa_nil))) nd) (fss_cons (fs_for hpo hc (fi_rng1 T.b_range (fa_cons (fe_bin ov_sub (fb (fr_var .dat 0)) (fb fe_int)) fa_nil)) (fg_nm 2 nd) (fss_cons (fs_setO 3 (fo_lst (n := 0) fa_nil) nd) (fss_cons (fs_for hpo hc (fi_l (fr_var .dat 1)) (fg_nm 4 nd) (fss_one (fs_extend 3 (fo_lc [("_law_block", 5)] hc nd (fi_rng1 T.b_range (fa_cons (fe_binS ov_add (fe_callB (cv_max1 hu) T.b_max (fab_cons (fb (fr_var .dat 4)) fab_nil)) fe_int) fa_nil)) (fun _ _ _ _ _ => (fg_nm 5 nd)) (fun _ _ _ _ _ => fts_nil) (fun _ _ _ _ _ => (fe_binS ov_add (fr_var .dat 4) (fe_tup (n := 1) (fa_cons (fr_var .dat 5) fa_nil)))))))) (fss_one (fs_fz [] (fs_set 1 (fr_var .dat 3) nd)))))) (fss_one (fs_ret (fr_var .dat 1)))))
theorem ok__law_partings {P : Program} {w : World} {K : PySem.W.Frag} {mg : Str → Option Value} {base : Heap} {f : Addr} {fd : FuncData}  (T : Tx mg) (F : Fun K "_law_partings" "_law_partings" s__law_partings f fd)  :
    FnV P w K mg base CX0 1 f fd ["_law_many"] (spP K [.dat] .dat fn__law_partings) :=
  fn_P F sc__law_partings rfl (fun i kk h => match i, h with | 0, h => by cases h; rfl | n + 1, h => by cases h) (fun cdv A outer s H E hgd hr => b__law_partings T  cdv A outer s H E hgd hr) (.inl rfl)
theorem nd__law_parting : N__law_parting.Nodup := by decide +kernel
theorem sc__law_parting : FnScope N__law_parting ["_law_m", "_law_many"] (defScope s__law_parting) := ⟨rfl, rfl, rfl, nd__law_parting, rfl, by decide +kernel, by decide +kernel⟩
theorem b__law_parting {P : Program} {w : World} {K : PySem.W.Frag} {mg : Str → Option Value} {base : Heap} {f : Addr} {f__law_numbered : Addr} {d__law_numbered : FuncData} {p__law_numbered : List Str} {f__law_draw : Addr} {d__law_draw : FuncData} {p__law_draw : List Str} (T : Tx mg) (C__law_numbered : Fc P w K mg base "_law_numbered" 1 f__law_numbered d__law_numbered p__law_numbered [.dat] .dat fn__law_numbered) (C__law_draw : FcM P w K mg base "_law_draw" 3 f__law_draw d__law_draw p__law_draw [.dat] .dat fn__law_draw) (W : Wd) (cdv : Value) (A : Around) (outer : List Env) (s : Shared) (H : Hp) (E : XK)
    (hgd : (A.deeper (PyProof.Rows.envOfC "_law_parting" (defScope s__law_parting) s.heap.objs.size f cdv)).guards = some []) (hr : Room 3 (A.deeper (PyProof.Rows.envOfC "_law_parting" (defScope s__law_parting) s.heap.objs.size f cdv))) :
    FSs (cxOf CX0 P w K mg base N__law_parting "_law_parting" (defScope s__law_parting) f cdv A outer s H E).nox ⟨some W, [0], dk__law_parting, .dat, EN⟩ [] [] (defBody s__law_parting) S__law_parting [] := by
  have nd := nd__law_parting
  have hc : (cxOf CX0 P w K mg base N__law_parting "_law_parting" (defScope s__law_parting) f cdv A outer s H E).nox.calm = true := rfl
  have hu : HU (cxOf CX0 P w K mg base N__law_parting "_law_parting" (defScope s__law_parting) f cdv A outer s H E).nox := .of hr
  have hu1 := hu_1 hu
  have hu64 := hu_64 hu
  have hu65 := hu_65 hu
  have hW : (⟨some W, [0], dk__law_parting, .dat, EN⟩ : Ct).W = some W := rfl
  exact (fss_one (fs_ret (fr_f C__law_numbered hgd (hr.mono (by decide)) (fa_cons (fe_of (fo_lc [("_law_door", 2)] hc nd (fi_rng1 T.b_range (fa_cons (fr_var .dat 1) fa_nil)) (fun _ _ _ _ _ => (fg_nm 2 nd)) (fun _ _ _ _ _ => fts_nil) (fun _ _ _ _ _ => (fr_m 0 hW C__law_draw hgd (hr.mono (by decide)) (fa_cons (fr_var .dat 1) fa_nil))))) fa_nil))))
theorem ok__law_parting {P : Program} {w : World} {K : PySem.W.Frag} {mg : Str → Option Value} {base : Heap} {f : Addr} {fd : FuncData} {f__law_numbered : Addr} {d__law_numbered : FuncData} {p__law_numbered : List Str} {f__law_draw : Addr} {d__law_draw : FuncData} {p__law_draw : List Str} (T : Tx mg) (F : Fun K "_law_parting" "_law_parting" s__law_parting f fd) (C__law_numbered : Fc P w K mg base "_law_numbered" 1 f__law_numbered d__law_numbered p__law_numbered [.dat] .dat fn__law_numbered) (C__law_draw : FcM P w K mg base "_law_draw" 3 f__law_draw d__law_draw p__law_draw [.dat] .dat fn__law_draw) :
    FnV P w K mg base CX0 4 f fd ["_law_m", "_law_many"] (spM K [.dat] .dat fn__law_parting) :=
  fn_M F sc__law_parting rfl (fun i kk h => match i, h with | 0, h => by cases h; rfl | n + 1, h => by cases h) (fun W cdv A outer s H E hgd hr => b__law_parting T C__law_numbered C__law_draw W cdv A outer s H E hgd hr) (.inl rfl)
theorem nd__law_root : N__law_root.Nodup := by decide +kernel
theorem sc__law_root : FnScope N__law_root ["_law_roots", "_law_thing"] (defScope s__law_root) := ⟨rfl, rfl, rfl, nd__law_root, rfl, by decide +kernel, by decide +kernel⟩
theorem b__law_root {P : Program} {w : World} {K : PySem.W.Frag} {mg : Str → Option Value} {base : Heap} {f : Addr}  (T : Tx mg)  (cdv : Value) (A : Around) (outer : List Env) (s : Shared) (H : Hp) (E : XK)
    (hgd : (A.deeper (PyProof.Rows.envOfC "_law_root" (defScope s__law_root) s.heap.objs.size f cdv)).guards = some []) (hr : Room 0 (A.deeper (PyProof.Rows.envOfC "_law_root" (defScope s__law_root) s.heap.objs.size f cdv))) :
    FSs (cxOf CX0 P w K mg base N__law_root "_law_root" (defScope s__law_root) f cdv A outer s H E).nox ⟨none, [], dk__law_root, .dat, EN⟩ [] [] (defBody s__law_root) S__law_root [] := by
  have nd := nd__law_root
  have hc : (cxOf CX0 P w K mg base N__law_root "_law_root" (defScope s__law_root) f cdv A outer s H E).nox.calm = true := rfl
  have hu : HU (cxOf CX0 P w K mg base N__law_root "_law_root" (defScope s__law_root) f cdv A outer s H E).nox := .of hr
  have hu1 := hu_1 hu
  have hu64 := hu_64 hu
  have hu65 := hu_65 hu
  have hpo : PassesOwn (model (cxOf CX0 P w K mg base N__law_root "_law_root" (defScope s__law_root) f cdv A outer s H E).nox.prog (cxOf CX0 P w K mg base N__law_root "_law_root" (defScope s__law_root) f cdv A outer s H E).nox.w) (cxOf CX0 P w K mg base N__law_root "_law_root" (defScope s__law_root) f cdv A outer s H E).nox.A (cxOf CX0 P w K mg base N__law_root "_law_root" (defScope s__law_root) f cdv A outer s H E).nox.env (cxOf CX0 P w K mg base N__law_root "_law_root" (defScope s__law_root) f cdv A outer s H E).nox.xe := PassesOwn.never
  exact (fss_cons (fs_while 64 hpo (ft_cmp (ov_ne hu64) (fb (fe_ix (fb (fr_var .dat 0)) (fr_var .dat 1))) (fb (fr_var .dat 1))) (fss_one (fs_set 1 (fe_ix (fb (fr_var .dat 0)) (fr_var .dat 1)) nd))) (fss_one (fs_ret (fr_var .dat 1))))
theorem ok__law_root {P : Program} {w : World} {K : PySem.W.Frag} {mg : Str → Option Value} {base : Heap} {f : Addr} {fd : FuncData}  (T : Tx mg) (F : Fun K "_law_root" "_law_root" s__law_root f fd)  :
    FnV P w K mg base CX0 1 f fd ["_law_roots", "_law_thing"] (spP K [.dat, .dat] .dat fn__law_root) :=
  fn_P F sc__law_root rfl (fun i kk h => match i, h with | 0, h => by cases h; rfl | 1, h => by cases h; rfl | n + 2, h => by cases h) (fun cdv A outer s H E hgd hr => b__law_root T  cdv A outer s H E hgd hr) (.inl rfl)
theorem nd__law_meet : N__law_meet.Nodup := by decide +kernel
theorem sc__law_meet : FnScope N__law_meet ["_law_one", "_law_two"] (defScope s__law_meet) := ⟨rfl, rfl, rfl, nd__law_meet, rfl, by decide +kernel, by decide +kernel⟩
theorem b__law_meet {P : Program} {w : World} {K : PySem.W.Frag} {mg : Str → Option Value} {base : Heap} {f : Addr} {f__law_root : Addr} {d__law_root : FuncData} {p__law_root : List Str} (T : Tx mg) (C__law_root : Fc P w K mg base "_law_root" 1 f__law_root d__law_root p__law_root [.dat, .dat] .dat fn__law_root) (cdv : Value) (A : Around) (outer : List Env) (s : Shared) (H : Hp) (E : XK)
    (hgd : (A.deeper (PyProof.Rows.envOfC "_law_meet" (defScope s__law_meet) s.heap.objs.size f cdv)).guards = some []) (hr : Room 1 (A.deeper (PyProof.Rows.envOfC "_law_meet" (defScope s__law_meet) s.heap.objs.size f cdv))) :
    FSs (cxOf CX0 P w K mg base N__law_meet "_law_meet" (defScope s__law_meet) f cdv A outer s H E).nox ⟨none, [], dk__law_meet, .dat, EN⟩ [] [] (defBody s__law_meet) S__law_meet [2] := by
  have nd := nd__law_meet
  have hc : (cxOf CX0 P w K mg base N__law_meet "_law_meet" (defScope s__law_meet) f cdv A outer s H E).nox.calm = true := rfl
  have hu : HU (cxOf CX0 P w K mg base N__law_meet "_law_meet" (defScope s__law_meet) f cdv A outer s H E).nox := .of hr
  have hu1 := hu_1 hu
  have hu64 := hu_64 hu
  have hu65 := hu_65 hu
  have hpo : PassesOwn (model (cxOf CX0 P w K mg base N__law_meet "_law_meet" (defScope s__law_meet) f cdv A outer s H E).nox.prog (cxOf CX0 P w K mg base N__law_meet "_law_meet" (defScope s__law_meet) f cdv A outer s H E).nox.w) (cxOf CX0 P w K mg base N__law_meet "_law_meet" (defScope s__law_meet) f cdv A outer s H E).nox.A (cxOf CX0 P w K mg base N__law_meet "_law_meet" (defScope s__law_meet) f cdv A outer s H E).nox.env (cxOf CX0 P w K mg base N__law_meet "_law_meet" (defScope s__law_meet) f cdv A outer s H E).nox.xe := PassesOwn.never
  exact (fss_cons (fs_par 4 5 hc nd (fa_cons (fe_binS ov_add (fe_callB (cv_max1 hu) T.b_max (fab_cons (fb (fr_var .dat 0)) fab_nil)) fe_int) (fa_cons (fe_binS ov_add (fe_callB (cv_max1 hu) T.b_max (fab_cons (fb (fr_var .dat 1)) fab_nil)) fe_int) fa_nil))) (fss_cons (fs_if (Un := []) (ft_cmp (ov_ne hu64) (fb (fe_binS ov_add (fr_var .dat 4) (fr_var .dat 5))) (fb (fe_binS ov_add (fe_callB cv_len T.b_len (fab_cons (fb (fr_var .dat 0)) fab_nil)) fe_int))) (fss_one (fs_ret fe_bl)) fss_nil) (fss_cons (fs_setO 2 (fo_lrng T.b_list T.b_range (fe_binS ov_add (fr_var .dat 4) (fr_var .dat 5))) nd) (fss_cons (fs_for hpo hc (fi_rng1 T.b_range (fa_cons (fe_callB cv_len T.b_len (fab_cons (fb (fr_var .dat 0)) fab_nil)) fa_nil)) (fg_nm 3 nd) (fss_cons (fs_par 6 7 hc nd (fa_cons (fe_callL 2 C__law_root hgd (hr.mono (by decide)) (fa_cons (fe_ix (fb (fr_var .dat 0)) (fr_var .dat 3)) fa_nil)) (fa_cons (fe_callL 2 C__law_root hgd (hr.mono (by decide)) (fa_cons (fe_binS ov_add (fr_var .dat 4) (fe_ix (fb (fr_var .dat 1)) (fr_var .dat 3))) fa_nil)) fa_nil))) (fss_cons (fs_if (Un := [2]) (ft_cmp (ov_eq hu64) (fb (fr_var .dat 6)) (fb (fr_var .dat 7))) (fss_one (fs_ret fe_bl)) fss_nil) (fss_one (fs_setIx 2 (fr_var .dat 6) (fr_var .dat 7)))))) (fss_one (fs_ret fe_bl))))))
theorem ok__law_meet {P : Program} {w : World} {K : PySem.W.Frag} {mg : Str → Option Value} {base : Heap} {f : Addr} {fd : FuncData} {f__law_root : Addr} {d__law_root : FuncData} {p__law_root : List Str} (T : Tx mg) (F : Fun K "_law_meet" "_law_meet" s__law_meet f fd) (C__law_root : Fc P w K mg base "_law_root" 1 f__law_root d__law_root p__law_root [.dat, .dat] .dat fn__law_root) :
    FnV P w K mg base CX0 2 f fd ["_law_one", "_law_two"] (spP K [.dat, .dat] .dat fn__law_meet) :=
  fn_P F sc__law_meet rfl (fun i kk h => match i, h with | 0, h => by cases h; rfl | 1, h => by cases h; rfl | n + 2, h => by cases h) (fun cdv A outer s H E hgd hr => b__law_meet T C__law_root cdv A outer s H E hgd hr) (.inl rfl)
theorem nd__law_met_all : N__law_met_all.Nodup := by decide +kernel
theorem sc__law_met_all : FnScope N__law_met_all ["_law_lot", "_law_many"] (defScope s__law_met_all) := ⟨rfl, rfl, rfl, nd__law_met_all, rfl, by decide +kernel, by decide +kernel⟩
theorem b__law_met_all {P : Program} {w : World} {K : PySem.W.Frag} {mg : Str → Option Value} {base : Heap} {f : Addr} {f__law_partings : Addr} {d__law_partings : FuncData} {p__law_partings : List Str} {f__law_meet : Addr} {d__law_meet : FuncData} {p__law_meet : List Str} (T : Tx mg) (C__law_partings : Fc P w K mg base "_law_partings" 1 f__law_partings d__law_partings p__law_partings [.dat] .dat fn__law_partings) (C__law_meet : Fc P w K mg base "_law_meet" 2 f__law_meet d__law_meet p__law_meet [.dat, .dat] .dat fn__law_meet) (cdv : Value) (A : Around) (outer : List Env) (s : Shared) (H : Hp) (E : XK)
    (hgd : (A.deeper (PyProof.Rows.envOfC "_law_met_all" (defScope s__law_met_all) s.heap.objs.size f cdv)).guards = some []) (hr : Room 2 (A.deeper (PyProof.Rows.envOfC "_law_met_all" (defScope s__law_met_all) s.heap.objs.size f cdv))) :
    FSs (cxOf CX0 P w K mg base N__law_met_all "_law_met_all" (defScope s__law_met_all) f cdv A outer s H E).nox ⟨none, [], dk__law_met_all, .dat, EN⟩ [] [] (defBody s__law_met_all) S__law_met_all [] := by
  have nd := nd__law_met_all
  have hc : (cxOf CX0 P w K mg base N__law_met_all "_law_met_all" (defScope s__law_met_all) f cdv A outer s H E).nox.calm = true := rfl
  have hu : HU (cxOf CX0 P w K mg base N__law_met_all "_law_met_all" (defScope s__law_met_all) f cdv A outer s H E).nox := .of hr
  have hu1 := hu_1 hu
  have hu64 := hu_64 hu
  have hu65 := hu_65 hu
  have hpo : PassesOwn (model (cxOf CX0 P w K mg base N__law_met_all "_law_met_all" (defScope s__law_met_all) f cdv A outer s H E).nox.prog (cxOf CX0 P w K mg base N__law_met_all "_law_met_all" (defScope s__law_met_all) f cdv A outer s H E).nox.w) (cxOf CX0 P w K mg base N__law_met_all "_law_met_all" (defScope s__law_met_all) f cdv A outer s H E).nox.A (cxOf CX0 P w K mg base N__law_met_all "_law_met_all" (defScope s__law_met_all) f cdv A outer s H E).nox.env (cxOf CX0 P w K mg base N__law_met_all "_law_met_all" (defScope s__law_met_all) f cdv A outer s H E).nox.xe := PassesOwn.never
  exact (fss_cons (fs_set 2 (fr_f C__law_partings hgd (hr.mono (by decide)) (fa_cons (fr_var .dat 1) fa_nil)) nd) (fss_cons (fs_for hpo hc (fi_t (fr_var .dat 0)) (fg_nm 3 nd) (fss_one (fs_wk (Un := []) (fs_setLc 2 [("_law_two", 4)] hc nd (fi_l (fr_var .dat 2)) (fun _ _ _ _ _ => (fg_nm 4 nd)) (fun _ _ _ _ _ => (fts_one (ft_val (fr_f C__law_meet hgd (hr.mono (by decide)) (fa_cons (fr_var .dat 3) (fa_cons (fr_var .dat 4) fa_nil)))))) (fun _ _ _ _ _ => (fr_var .dat 4)) (sw_true rfl rfl rfl rfl))))) (fss_one (fs_ret (fe_callTy cv_tuple T.b_tuple (fab_cons (fb (fr_var .dat 2)) fab_nil))))))
theorem ok__law_met_all {P : Program} {w : World} {K : PySem.W.Frag} {mg : Str → Option Value} {base : Heap} {f : Addr} {fd : FuncData} {f__law_partings : Addr} {d__law_partings : FuncData} {p__law_partings : List Str} {f__law_meet : Addr} {d__law_meet : FuncData} {p__law_meet : List Str} (T : Tx mg) (F : Fun K "_law_met_all" "_law_met_all" s__law_met_all f fd) (C__law_partings : Fc P w K mg base "_law_partings" 1 f__law_partings d__law_partings p__law_partings [.dat] .dat fn__law_partings) (C__law_meet : Fc P w K mg base "_law_meet" 2 f__law_meet d__law_meet p__law_meet [.dat, .dat] .dat fn__law_meet) :
    FnV P w K mg base CX0 3 f fd ["_law_lot", "_law_many"] (spP K [.dat, .dat] .dat fn__law_met_all) :=
  fn_P F sc__law_met_all rfl (fun i kk h => match i, h with | 0, h => by cases h; rfl | 1, h => by cases h; rfl | n + 2, h => by cases h) (fun cdv A outer s H E hgd hr => b__law_met_all T C__law_partings C__law_meet cdv A outer s H E hgd hr) (.inl rfl)
theorem b__law_met_allL {P : Program} {w : World} {K : PySem.W.Frag} {mg : Str → Option Value} {base : Heap} {f : Addr} {f__law_partings : Addr} {d__law_partings : FuncData} {p__law_partings : List Str} {f__law_meet : Addr} {d__law_meet : FuncData} {p__law_meet : List Str} (T : Tx mg) (C__law_partings : Fc P w K mg base "_law_partings" 1 f__law_partings d__law_partings p__law_partings [.dat] .dat fn__law_partings) (C__law_meet : Fc P w K mg base "_law_meet" 2 f__law_meet d__law_meet p__law_meet [.dat, .dat] .dat fn__law_meet) (cdv : Value) (A : Around) (outer : List Env) (s : Shared) (H : Hp) (E : XK)
    (hgd : (A.deeper (PyProof.Rows.envOfC "_law_met_all" (defScope s__law_met_all) s.heap.objs.size f cdv)).guards = some []) (hr : Room 2 (A.deeper (PyProof.Rows.envOfC "_law_met_all" (defScope s__law_met_all) s.heap.objs.size f cdv))) :
    FSs (cxOf CX0 P w K mg base N__law_met_all "_law_met_all" (defScope s__law_met_all) f cdv A outer s H E).nox ⟨none, [], dk__law_met_allL, .dat, EN⟩ [] [] (defBody s__law_met_all) S__law_met_allL [] := by
  have nd := nd__law_met_all
  have hc : (cxOf CX0 P w K mg base N__law_met_all "_law_met_all" (defScope s__law_met_all) f cdv A outer s H E).nox.calm = true := rfl
  have hu : HU (cxOf CX0 P w K mg base N__law_met_all "_law_met_all" (defScope s__law_met_all) f cdv A outer s H E).nox := .of hr
  have hu1 := hu_1 hu
  have hu64 := hu_64 hu
  have hu65 := hu_65 hu
  have hpo : PassesOwn (model (cxOf CX0 P w K mg base N__law_met_all "_law_met_all" (defScope s__law_met_all) f cdv A outer s H E).nox.prog (cxOf CX0 P w K mg base N__law_met_all "_law_met_all" (defScope s__law_met_all) f cdv A outer s H E).nox.w) (cxOf CX0 P w K mg base N__law_met_all "_law_met_all" (defScope s__law_met_all) f cdv A outer s H E).nox.A (cxOf CX0 P w K mg base N__law_met_all "_law_met_all" (defScope s__law_met_all) f cdv A outer s H E).nox.env (cxOf CX0 P w K mg base N__law_met_all "_law_met_all" (defScope s__law_met_all) f cdv A outer s H E).nox.xe := PassesOwn.never
  exact (fss_cons (fs_set 2 (fr_f C__law_partings hgd (hr.mono (by decide)) (fa_cons (fr_var .dat 1) fa_nil)) nd) (fss_cons (fs_for hpo hc (fi_l (fr_var .dat 0)) (fg_nm 3 nd) (fss_one (fs_wk (Un := []) (fs_setLc 2 [("_law_two", 4)] hc nd (fi_l (fr_var .dat 2)) (fun _ _ _ _ _ => (fg_nm 4 nd)) (fun _ _ _ _ _ => (fts_one (ft_val (fr_f C__law_meet hgd (hr.mono (by decide)) (fa_cons (fr_var .dat 3) (fa_cons (fr_var .dat 4) fa_nil)))))) (fun _ _ _ _ _ => (fr_var .dat 4)) (sw_true rfl rfl rfl rfl))))) (fss_one (fs_ret (fe_callTy cv_tuple T.b_tuple (fab_cons (fb (fr_var .dat 2)) fab_nil))))))
theorem ok__law_met_allL {P : Program} {w : World} {K : PySem.W.Frag} {mg : Str → Option Value} {base : Heap} {f : Addr} {fd : FuncData} {f__law_partings : Addr} {d__law_partings : FuncData} {p__law_partings : List Str} {f__law_meet : Addr} {d__law_meet : FuncData} {p__law_meet : List Str} (T : Tx mg) (F : Fun K "_law_met_all" "_law_met_all" s__law_met_all f fd) (C__law_partings : Fc P w K mg base "_law_partings" 1 f__law_partings d__law_partings p__law_partings [.dat] .dat fn__law_partings) (C__law_meet : Fc P w K mg base "_law_meet" 2 f__law_meet d__law_meet p__law_meet [.dat, .dat] .dat fn__law_meet) :
    FnV P w K mg base CX0 3 f fd ["_law_lot", "_law_many"] (spP K [.dat, .dat] .dat fn__law_met_allL) :=
  fn_P F sc__law_met_all rfl (fun i kk h => match i, h with | 0, h => by cases h; rfl | 1, h => by cases h; rfl | n + 2, h => by cases h) (fun cdv A outer s H E hgd hr => b__law_met_allL T C__law_partings C__law_meet cdv A outer s H E hgd hr) (.inl rfl)
theorem nd__law_lot_from : N__law_lot_from.Nodup := by decide +kernel
theorem sc__law_lot_from : FnScope N__law_lot_from ["_law_rows"] (defScope s__law_lot_from) := ⟨rfl, rfl, rfl, nd__law_lot_from, rfl, by decide +kernel, by decide +kernel⟩
theorem b__law_lot_from {P : Program} {w : World} {K : PySem.W.Frag} {mg : Str → Option Value} {base : Heap} {f : Addr}  (T : Tx mg)  (cdv : Value) (A : Around) (outer : List Env) (s : Shared) (H : Hp) (E : XK)
    (hgd : (A.deeper (PyProof.Rows.envOfC "_law_lot_from" (defScope s__law_lot_from) s.heap.objs.size f cdv)).guards = some []) (hr : Room 0 (A.deeper (PyProof.Rows.envOfC "_law_lot_from" (defScope s__law_lot_from) s.heap.objs.size f cdv))) :
    FSs (cxOf CX0 P w K mg base N__law_lot_from "_law_lot_from" (defScope s__law_lot_from) f cdv A outer s H E).nox ⟨none, [], dk__law_lot_from, .nd, EN⟩ [] [] (defBody s__law_lot_from) S__law_lot_from [] := by
  have nd := nd__law_lot_from
  have hc : (cxOf CX0 P w K mg base N__law_lot_from "_law_lot_from" (defScope s__law_lot_from) f cdv A outer s H E).nox.calm = true := rfl
  have hu : HU (cxOf CX0 P w K mg base N__law_lot_from "_law_lot_from" (defScope s__law_lot_from) f cdv A outer s H E).nox := .of hr
  have hu1 := hu_1 hu
  have hu64 := hu_64 hu
  have hu65 := hu_65 hu
  exact (fss_one (fs_ret (fr_tupN T.b_tuple (fab_cons (fb (fe_of (fo_callB co_sortT T.b_sorted (fab_cons (fb (fe_of (fo_lc [("_law_n", 1), ("_law_row", 2)] hc nd (fi_enum true T.b_enumerate (fa_cons (fr_var .dat 0) fa_nil)) (fun _ _ _ _ _ => (fg_tup (n := 2) hc (fg_cons (fg_nm 1 nd) (fg_cons (fg_nm 2 nd) fg_nil)))) (fun _ _ _ _ _ => (fts_one (ft_cmp (ov_notIn hu65) (fb (fr_var .dat 2)) (fb (fe_sl (fr_var .dat 0) fp_none (fp_some (fr_var .dat 1))))))) (fun _ _ _ _ _ => (fr_var .dat 2))))) fab_nil)))) fab_nil))))
theorem ok__law_lot_from {P : Program} {w : World} {K : PySem.W.Frag} {mg : Str → Option Value} {base : Heap} {f : Addr} {fd : FuncData}  (T : Tx mg) (F : Fun K "_law_lot_from" "_law_lot_from" s__law_lot_from f fd)  :
    FnV P w K mg base CX0 1 f fd ["_law_rows"] (spP K [.dat] .nd fn__law_lot_from) :=
  fn_P F sc__law_lot_from rfl (fun i kk h => match i, h with | 0, h => by cases h; rfl | n + 1, h => by cases h) (fun cdv A outer s H E hgd hr => b__law_lot_from T  cdv A outer s H E hgd hr) (.inr (by repeat (first | exact nonx_ret | refine nonx_sq ?_)))
theorem nd__law_some_lot : N__law_some_lot.Nodup := by decide +kernel
theorem sc__law_some_lot : FnScope N__law_some_lot ["_law_m", "_law_many"] (defScope s__law_some_lot) := ⟨rfl, rfl, rfl, nd__law_some_lot, rfl, by decide +kernel, by decide +kernel⟩
theorem b__law_some_lot {P : Program} {w : World} {K : PySem.W.Frag} {mg : Str → Option Value} {base : Heap} {f : Addr} {f__law_parting : Addr} {d__law_parting : FuncData} {p__law_parting : List Str} {f__law_draw : Addr} {d__law_draw : FuncData} {p__law_draw : List Str} {f__law_partings : Addr} {d__law_partings : FuncData} {p__law_partings : List Str} {f__law_lot_from : Addr} {d__law_lot_from : FuncData} {p__law_lot_from : List Str} {f__law_met_allL : Addr} {d__law_met_allL : FuncData} {p__law_met_allL : List Str} {f__law_of : Addr} {d__law_of : FuncData} {p__law_of : List Str} (T : Tx mg) (C__law_parting : FcM P w K mg base "_law_parting" 4 f__law_parting d__law_parting p__law_parting [.dat] .dat fn__law_parting) (C__law_draw : FcM P w K mg base "_law_draw" 3 f__law_draw d__law_draw p__law_draw [.dat] .dat fn__law_draw) (C__law_partings : Fc P w K mg base "_law_partings" 1 f__law_partings d__law_partings p__law_partings [.dat] .dat fn__law_partings) (C__law_lot_from : Fc P w K mg base "_law_lot_from" 1 f__law_lot_from d__law_lot_from p__law_lot_from [.dat] .nd fn__law_lot_from) (C__law_met_allL : Fc P w K mg base "_law_met_all" 3 f__law_met_allL d__law_met_allL p__law_met_allL [.dat, .dat] .dat fn__law_met_allL) (C__law_of : FcM P w K mg base "_law_of" 4 f__law_of d__law_of p__law_of [.dat] .dat fn__law_of) (W : Wd) (cdv : Value) (A : Around) (outer : List Env) (s : Shared) (H : Hp) (E : XK)
    (hgd : (A.deeper (PyProof.Rows.envOfC "_law_some_lot" (defScope s__law_some_lot) s.heap.objs.size f cdv)).guards = some []) (hr : Room 4 (A.deeper (PyProof.Rows.envOfC "_law_some_lot" (defScope s__law_some_lot) s.heap.objs.size f cdv))) :
    FSs (cxOf CX0 P w K mg base N__law_some_lot "_law_some_lot" (defScope s__law_some_lot) f cdv A outer s H E).nox ⟨some W, [0], dk__law_some_lot, .nd, EN⟩ [] [] (defBody s__law_some_lot) S__law_some_lot [] := by
  have nd := nd__law_some_lot
  have hc : (cxOf CX0 P w K mg base N__law_some_lot "_law_some_lot" (defScope s__law_some_lot) f cdv A outer s H E).nox.calm = true := rfl
  have hu : HU (cxOf CX0 P w K mg base N__law_some_lot "_law_some_lot" (defScope s__law_some_lot) f cdv A outer s H E).nox := .of hr
  have hu1 := hu_1 hu
  have hu64 := hu_64 hu
  have hu65 := hu_65 hu
  have hW : (⟨some W, [0], dk__law_some_lot, .nd, EN⟩ : Ct).W = some W := rfl
  exact (fss_cons (fs_par 3 4 hc nd (fa_cons (fr_m 0 hW C__law_draw hgd (hr.mono (by decide)) (fa_cons fe_int fa_nil)) (fa_cons (fr_m 0 hW C__law_parting hgd (hr.mono (by decide)) (fa_cons (fr_var .dat 1) fa_nil)) fa_nil))) (fss_cons (fs_if (Un := []) (ft_cmp (ov_eq hu64) (fb (fr_var .dat 3)) (fb fe_int)) (fss_one (fs_ret (fr_tupD (n := 0) fa_nil))) fss_nil) (fss_cons (fs_if (Un := []) (ft_w (fw_and (ft_cmp (ov_eq hu64) (fb (fr_var .dat 3)) (fb fe_int)) (fw_and1 (ft_cmp ov_lt (fb (fr_var .dat 1)) (fb fe_int))))) (fss_one (fs_ret (fr_tupN T.b_tuple (fab_cons (fb (fr_f C__law_partings hgd (hr.mono (by decide)) (fa_cons (fr_var .dat 1) fa_nil))) fab_nil)))) fss_nil) (fss_cons (fs_if (Un := []) (ft_cmp ov_lt (fb (fr_var .dat 3)) (fb fe_int)) (fss_one (fs_ret (fr_f C__law_lot_from hgd (hr.mono (by decide)) (fa_cons (fe_of (fo_lc [("_law_turn", 5)] hc nd (fi_rng1 T.b_range (fa_cons (fe_binS ov_add fe_int (fr_m 0 hW C__law_draw hgd (hr.mono (by decide)) (fa_cons fe_int fa_nil))) fa_nil)) (fun _ _ _ _ _ => (fg_nm 5 nd)) (fun _ _ _ _ _ => fts_nil) (fun _ _ _ _ _ => (fr_m 0 hW C__law_parting hgd (hr.mono (by decide)) (fa_cons (fr_var .dat 1) fa_nil))))) fa_nil)))) fss_nil) (fss_cons (fs_set 2 (fr_f C__law_met_allL hgd (hr.mono (by decide)) (fa_cons (fe_of (fo_lst (n := 1) (fa_cons (fr_var .dat 4) fa_nil))) (fa_cons (fr_var .dat 1) fa_nil))) nd) (fss_one (fs_ret (fr_f C__law_lot_from hgd (hr.mono (by decide)) (fa_cons (fe_of (fo_lc [("_law_turn", 5)] hc nd (fi_rng1 T.b_range (fa_cons (fe_binS ov_add fe_int (fr_m 0 hW C__law_draw hgd (hr.mono (by decide)) (fa_cons fe_int fa_nil))) fa_nil)) (fun _ _ _ _ _ => (fg_nm 5 nd)) (fun _ _ _ _ _ => fts_nil) (fun _ _ _ _ _ => (fr_m 0 hW C__law_of hgd (hr.mono (by decide)) (fa_cons (fr_var .dat 2) fa_nil))))) fa_nil)))))))))
theorem ok__law_some_lot {P : Program} {w : World} {K : PySem.W.Frag} {mg : Str → Option Value} {base : Heap} {f : Addr} {fd : FuncData} {f__law_parting : Addr} {d__law_parting : FuncData} {p__law_parting : List Str} {f__law_draw : Addr} {d__law_draw : FuncData} {p__law_draw : List Str} {f__law_partings : Addr} {d__law_partings : FuncData} {p__law_partings : List Str} {f__law_lot_from : Addr} {d__law_lot_from : FuncData} {p__law_lot_from : List Str} {f__law_met_allL : Addr} {d__law_met_allL : FuncData} {p__law_met_allL : List Str} {f__law_of : Addr} {d__law_of : FuncData} {p__law_of : List Str} (T : Tx mg) (F : Fun K "_law_some_lot" "_law_some_lot" s__law_some_lot f fd) (C__law_parting : FcM P w K mg base "_law_parting" 4 f__law_parting d__law_parting p__law_parting [.dat] .dat fn__law_parting) (C__law_draw : FcM P w K mg base "_law_draw" 3 f__law_draw d__law_draw p__law_draw [.dat] .dat fn__law_draw) (C__law_partings : Fc P w K mg base "_law_partings" 1 f__law_partings d__law_partings p__law_partings [.dat] .dat fn__law_partings) (C__law_lot_from : Fc P w K mg base "_law_lot_from" 1 f__law_lot_from d__law_lot_from p__law_lot_from [.dat] .nd fn__law_lot_from) (C__law_met_allL : Fc P w K mg base "_law_met_all" 3 f__law_met_allL d__law_met_allL p__law_met_allL [.dat, .dat] .dat fn__law_met_allL) (C__law_of : FcM P w K mg base "_law_of" 4 f__law_of d__law_of p__law_of [.dat] .dat fn__law_of) :
    FnV P w K mg base CX0 5 f fd ["_law_m", "_law_many"] (spM K [.dat] .nd fn__law_some_lot) :=
  fn_M F sc__law_some_lot rfl (fun i kk h => match i, h with | 0, h => by cases h; rfl | n + 1, h => by cases h) (fun W cdv A outer s H E hgd hr => b__law_some_lot T C__law_parting C__law_draw C__law_partings C__law_lot_from C__law_met_allL C__law_of W cdv A outer s H E hgd hr) (.inr (by repeat (first | exact nonx_ret | refine nonx_sq ?_)))
theorem nd__law_bad_lot : N__law_bad_lot.Nodup := by decide +kernel
theorem sc__law_bad_lot : FnScope N__law_bad_lot ["_law_m", "_law_lot", "_law_many"] (defScope s__law_bad_lot) := ⟨rfl, rfl, rfl, nd__law_bad_lot, rfl, by decide +kernel, by decide +kernel⟩
theorem b__law_bad_lot {P : Program} {w : World} {K : PySem.W.Frag} {mg : Str → Option Value} {base : Heap} {f : Addr} {f__law_draw : Addr} {d__law_draw : FuncData} {p__law_draw : List Str} {f__law_of : Addr} {d__law_of : FuncData} {p__law_of : List Str} {f__law_parting : Addr} {d__law_parting : FuncData} {p__law_parting : List Str} (T : Tx mg) (C__law_draw : FcM P w K mg base "_law_draw" 3 f__law_draw d__law_draw p__law_draw [.dat] .dat fn__law_draw) (C__law_of : FcM P w K mg base "_law_of" 4 f__law_of d__law_of p__law_of [.dat] .dat fn__law_of) (C__law_parting : FcM P w K mg base "_law_parting" 4 f__law_parting d__law_parting p__law_parting [.dat] .dat fn__law_parting) (W : Wd) (cdv : Value) (A : Around) (outer : List Env) (s : Shared) (H : Hp) (E : XK)
    (hgd : (A.deeper (PyProof.Rows.envOfC "_law_bad_lot" (defScope s__law_bad_lot) s.heap.objs.size f cdv)).guards = some []) (hr : Room 4 (A.deeper (PyProof.Rows.envOfC "_law_bad_lot" (defScope s__law_bad_lot) s.heap.objs.size f cdv))) :
    FSs (cxOf CX0 P w K mg base N__law_bad_lot "_law_bad_lot" (defScope s__law_bad_lot) f cdv A outer s H E).nox ⟨some W, [0], dk__law_bad_lot, .dat, EN⟩ [] [] (defBody s__law_bad_lot) S__law_bad_lot [] := by
  have nd := nd__law_bad_lot
  have hc : (cxOf CX0 P w K mg base N__law_bad_lot "_law_bad_lot" (defScope s__law_bad_lot) f cdv A outer s H E).nox.calm = true := rfl
  have hu : HU (cxOf CX0 P w K mg base N__law_bad_lot "_law_bad_lot" (defScope s__law_bad_lot) f cdv A outer s H E).nox := .of hr
  have hu1 := hu_1 hu
  have hu64 := hu_64 hu
  have hu65 := hu_65 hu
  have hW : (⟨some W, [0], dk__law_bad_lot, .dat, EN⟩ : Ct).W = some W := rfl
  exact (fss_cons (fs_par 5 6 hc nd (fa_cons (fr_m 0 hW C__law_draw hgd (hr.mono (by decide)) (fa_cons fe_int fa_nil)) (fa_cons (fr_m 0 hW C__law_draw hgd (hr.mono (by decide)) (fa_cons (fe_binS ov_add (fe_callB cv_len T.b_len (fab_cons (fb (fr_var .nd 1)) fab_nil)) fe_int) fa_nil)) fa_nil))) (fss_cons (fs_if (Un := []) (ft_cmp (ov_eq hu64) (fb (fr_var .dat 5)) (fb fe_int)) (fss_one (fs_ret (fe_tup (n := 2) (fa_cons (fr_m 0 hW C__law_of hgd (hr.mono (by decide)) (fa_cons (fe_of (fo_lst (n := 5) (fa_cons fe_non (fa_cons (fe_of (fo_callTy co_list T.b_list (fab_cons (fb (fr_var .nd 1)) fab_nil))) (fa_cons fe_int (fa_cons fe_str (fa_cons fe_dic0 fa_nil))))))) fa_nil)) (fa_cons fe_str fa_nil))))) fss_nil) (fss_cons (fs_if (Un := []) (ft_w (fw_or (ft_cmp ov_lt (fb (fr_var .dat 5)) (fb fe_int)) (fw_or1 (ft_cmp (ov_eq hu64) (fb (fr_var .nd 1)) (fb (fe_tup (n := 0) fa_nil)))))) (fss_cons (fs_set 3 (fr_m 0 hW C__law_parting hgd (hr.mono (by decide)) (fa_cons (fr_var .dat 2) fa_nil)) nd) (fss_cons (fs_set 7 (fr_m 0 hW C__law_of hgd (hr.mono (by decide)) (fa_cons (fe_of (fo_lst (n := 8) (fa_cons fe_non (fa_cons (fe_of (fo_callTy co_list T.b_list (fab_cons (fb (fr_var .dat 3)) fab_nil))) (fa_cons (fe_binS ov_add (fr_var .dat 3) (fe_tup (n := 1) (fa_cons fe_int fa_nil))) (fa_cons (fe_sl (fr_var .dat 3) (fp_some fe_int) fp_none) (fa_cons (fe_binS ov_add (fe_tup (n := 1) (fa_cons fe_int fa_nil)) (fe_sl (fr_var .dat 3) (fp_some fe_int) fp_none)) (fa_cons (fe_binS ov_add (fe_sl (fr_var .dat 3) fp_none (fp_some (fe_neg fe_int))) (fe_tup (n := 1) (fa_cons (fr_var .dat 2) fa_nil))) (fa_cons (fe_binS ov_add (fe_tup (n := 1) (fa_cons fe_bl fa_nil)) (fe_sl (fr_var .dat 3) (fp_some fe_int) fp_none)) (fa_cons fe_int fa_nil)))))))))) fa_nil)) nd) (fss_one (fs_ret (fe_tup (n := 2) (fa_cons (fe_binS ov_add (fe_binS ov_add (fe_sl (fe_w (fr_var .nd 1)) fp_none (fp_some (fr_var .dat 6))) (fe_tup (n := 1) (fa_cons (fr_var .dat 7) fa_nil))) (fe_sl (fe_w (fr_var .nd 1)) (fp_some (fr_var .dat 6)) fp_none)) (fa_cons fe_str fa_nil))))))) fss_nil) (fss_cons (fs_set 3 (fr_m 0 hW C__law_of hgd (hr.mono (by decide)) (fa_cons (fe_w (fr_var .nd 1)) fa_nil)) nd) (fss_cons (fs_set 4 (fe_tindexD hu65 (fr_var .nd 1) (fr_var .dat 3)) nd) (fss_one (fs_ret (fe_tup (n := 2) (fa_cons (fr_if (ft_cmp (ov_eq hu64) (fb (fr_var .dat 5)) (fb fe_int)) (fe_binS ov_add (fe_binS ov_add (fe_sl (fe_w (fr_var .nd 1)) fp_none (fp_some (fe_binS ov_add (fr_var .dat 4) fe_int))) (fe_tup (n := 1) (fa_cons (fr_var .dat 3) fa_nil))) (fe_sl (fe_w (fr_var .nd 1)) (fp_some (fe_binS ov_add (fr_var .dat 4) fe_int)) fp_none)) (fe_binS ov_add (fe_w (fr_var .nd 1)) (fe_tup (n := 1) (fa_cons (fe_ix (fb (fr_var .nd 1)) fe_int) fa_nil)))) (fa_cons fe_str fa_nil))))))))))
theorem ok__law_bad_lot {P : Program} {w : World} {K : PySem.W.Frag} {mg : Str → Option Value} {base : Heap} {f : Addr} {fd : FuncData} {f__law_draw : Addr} {d__law_draw : FuncData} {p__law_draw : List Str} {f__law_of : Addr} {d__law_of : FuncData} {p__law_of : List Str} {f__law_parting : Addr} {d__law_parting : FuncData} {p__law_parting : List Str} (T : Tx mg) (F : Fun K "_law_bad_lot" "_law_bad_lot" s__law_bad_lot f fd) (C__law_draw : FcM P w K mg base "_law_draw" 3 f__law_draw d__law_draw p__law_draw [.dat] .dat fn__law_draw) (C__law_of : FcM P w K mg base "_law_of" 4 f__law_of d__law_of p__law_of [.dat] .dat fn__law_of) (C__law_parting : FcM P w K mg base "_law_parting" 4 f__law_parting d__law_parting p__law_parting [.dat] .dat fn__law_parting) :
    FnV P w K mg base CX0 5 f fd ["_law_m", "_law_lot", "_law_many"] (spM K [.nd, .dat] .dat fn__law_bad_lot) :=
  fn_M F sc__law_bad_lot rfl (fun i kk h => match i, h with | 0, h => by cases h; rfl | 1, h => by cases h; rfl | n + 2, h => by cases h) (fun W cdv A outer s H E hgd hr => b__law_bad_lot T C__law_draw C__law_of C__law_parting W cdv A outer s H E hgd hr) (.inl rfl)
theorem nd__law_asked : N__law_asked.Nodup := by decide +kernel
theorem sc__law_asked : FnScope N__law_asked ["_law_which", "_law_lot", "_law_many"] (defScope s__law_asked) := ⟨rfl, rfl, rfl, nd__law_asked, rfl, by decide +kernel, by decide +kernel⟩
theorem b__law_asked {P : Program} {w : World} {K : PySem.W.Frag} {mg : Str → Option Value} {base : Heap} {f : Addr} {f_is_closed : Addr} {d_is_closed : FuncData} {p_is_closed : List Str} {f_closed : Addr} {d_closed : FuncData} {p_closed : List Str} {f_turned : Addr} {d_turned : FuncData} {p_turned : List Str} {f_need_lot : Addr} {d_need_lot : FuncData} {p_need_lot : List Str} {c_BadParting : Addr} {c_BadLot : Addr} {c_BadNumber : Addr} (T : Tx mg) (C_is_closed : FcX P w K mg base "is_closed" 7 f_is_closed d_is_closed p_is_closed [.dat, .dat] .dat fn_is_closed) (C_closed : FcX P w K mg base "closed" 7 f_closed d_closed p_closed [.dat, .dat] .dat fn_closed) (C_turned : FcX P w K mg base "turned" 7 f_turned d_turned p_turned [.dat, .dat] .dat fn_turned) (C_need_lot : FcX P w K mg base "need_lot" 6 f_need_lot d_need_lot p_need_lot [.dat, .dat] .dat fn_need_lot) (n_closed : PySem.W.nsIn K mainGlobals "closed" = some (some (.ref f_closed))) (n_is_closed : PySem.W.nsIn K mainGlobals "is_closed" = some (some (.ref f_is_closed))) (n_need_lot : PySem.W.nsIn K mainGlobals "need_lot" = some (some (.ref f_need_lot))) (n_turned : PySem.W.nsIn K mainGlobals "turned" = some (some (.ref f_turned))) (TB : ∀ n Fn, tab__law_asked.lookup n = some Fn → FnT P w K mg base 7 [.dat, .dat] .dat n Fn) (EX : Exs P w K mg base c_BadParting c_BadLot c_BadNumber) (cdv : Value) (A : Around) (outer : List Env) (s : Shared) (H : Hp) (E : XK)
    (hgd : (A.deeper (PyProof.Rows.envOfC "_law_asked" (defScope s__law_asked) s.heap.objs.size f cdv)).guards = some []) (hr : Room 7 (A.deeper (PyProof.Rows.envOfC "_law_asked" (defScope s__law_asked) s.heap.objs.size f cdv))) :
    FSs (cxOf CX0 P w K mg base N__law_asked "_law_asked" (defScope s__law_asked) f cdv A outer s H E).nox ⟨none, [], dk__law_asked, .dat, EN⟩ [] [] (defBody s__law_asked) S__law_asked [] := by
  have nd := nd__law_asked
  have hc : (cxOf CX0 P w K mg base N__law_asked "_law_asked" (defScope s__law_asked) f cdv A outer s H E).nox.calm = true := rfl
  have hu : HU (cxOf CX0 P w K mg base N__law_asked "_law_asked" (defScope s__law_asked) f cdv A outer s H E).nox := .of hr
  have hu1 := hu_1 hu
  have hu64 := hu_64 hu
  have hu65 := hu_65 hu
  have tk : TkX (cxOf CX0 P w K mg base N__law_asked "_law_asked" (defScope s__law_asked) f cdv A outer s H E).nox ⟨none, [], dk__law_asked, .dat, EN⟩ := takesN
  exact (fss_cons (fs_set 3 (fe_ix (fb (fe_of (fo_lst (n := 4) (fa_cons (fe_fn C_need_lot.here n_need_lot) (fa_cons (fe_fn C_turned.here n_turned) (fa_cons (fe_fn C_closed.here n_closed) (fa_cons (fe_fn C_is_closed.here n_is_closed) fa_nil))))))) (fr_var .dat 0)) nd) (fss_cons (fs_set 4 (fe_tup (n := 0) fa_nil) nd) (fss_cons (fs_tryX (errs := errs) rfl rfl nd tk (fun pl xe E2 tk2 => (fs1_set 4 (fe_tup (n := 2) (fa_cons fe_str (fa_cons (fr_callV 3 TB tk2 hgd (hr.mono (by decide)) (fa_cons (fr_var .dat 1) (fa_cons (fr_var .dat 2) fa_nil))) fa_nil))) nd)) (.named (j := 5) ⟨rfl, by decide, .inl EX.m_BadLot⟩ rfl rfl (by decide) (by (try dsimp only); decide) EX.t_BadLot (su_set 4 (fxe_tup (fxa_cons fxe_str (fxa_cons (fxe_fld (i := 5) (n := "BadLot") EX.x_BadLot EX.f_BadLot_word EX.m_BadLot rfl (by first | exact Or.inl rfl | exact Or.inr (Or.inl rfl) | exact Or.inr (Or.inr rfl))) fxa_nil))) nd) (fun x i d h => by obtain rfl := isSet h; exact ⟨by decide, by decide, by (try dsimp only); decide, rfl⟩) (fun x d h => noRet h) (.named (j := 5) ⟨rfl, by decide, .inl EX.m_BadNumber⟩ rfl rfl (by decide) (by (try dsimp only); decide) EX.t_BadNumber (su_set 4 (fxe_tup (fxa_cons fxe_str (fxa_cons (fxe_fld (i := 5) (n := "BadNumber") EX.x_BadNumber EX.f_BadNumber_value EX.m_BadNumber rfl (by first | exact Or.inl rfl | exact Or.inr (Or.inl rfl) | exact Or.inr (Or.inr rfl))) fxa_nil))) nd) (fun x i d h => by obtain rfl := isSet h; exact ⟨by decide, by decide, by (try dsimp only); decide, rfl⟩) (fun x d h => noRet h) .nil))) (fss_one (fs_ret (fr_var .dat 4))))))
theorem ok__law_asked {P : Program} {w : World} {K : PySem.W.Frag} {mg : Str → Option Value} {base : Heap} {f : Addr} {fd : FuncData} {f_is_closed : Addr} {d_is_closed : FuncData} {p_is_closed : List Str} {f_closed : Addr} {d_closed : FuncData} {p_closed : List Str} {f_turned : Addr} {d_turned : FuncData} {p_turned : List Str} {f_need_lot : Addr} {d_need_lot : FuncData} {p_need_lot : List Str} {c_BadParting : Addr} {c_BadLot : Addr} {c_BadNumber : Addr} (T : Tx mg) (F : Fun K "_law_asked" "_law_asked" s__law_asked f fd) (C_is_closed : FcX P w K mg base "is_closed" 7 f_is_closed d_is_closed p_is_closed [.dat, .dat] .dat fn_is_closed) (C_closed : FcX P w K mg base "closed" 7 f_closed d_closed p_closed [.dat, .dat] .dat fn_closed) (C_turned : FcX P w K mg base "turned" 7 f_turned d_turned p_turned [.dat, .dat] .dat fn_turned) (C_need_lot : FcX P w K mg base "need_lot" 6 f_need_lot d_need_lot p_need_lot [.dat, .dat] .dat fn_need_lot) (n_closed : PySem.W.nsIn K mainGlobals "closed" = some (some (.ref f_closed))) (n_is_closed : PySem.W.nsIn K mainGlobals "is_closed" = some (some (.ref f_is_closed))) (n_need_lot : PySem.W.nsIn K mainGlobals "need_lot" = some (some (.ref f_need_lot))) (n_turned : PySem.W.nsIn K mainGlobals "turned" = some (some (.ref f_turned))) (TB : ∀ n Fn, tab__law_asked.lookup n = some Fn → FnT P w K mg base 7 [.dat, .dat] .dat n Fn) (EX : Exs P w K mg base c_BadParting c_BadLot c_BadNumber) :
    FnV P w K mg base CX0 8 f fd ["_law_which", "_law_lot", "_law_many"] (spP K [.dat, .dat, .dat] .dat fn__law_asked) :=
  fn_P F sc__law_asked rfl (fun i kk h => match i, h with | 0, h => by cases h; rfl | 1, h => by cases h; rfl | 2, h => by cases h; rfl | n + 3, h => by cases h) (fun cdv A outer s H E hgd hr => b__law_asked T C_is_closed C_closed C_turned C_need_lot n_closed n_is_closed n_need_lot n_turned TB EX cdv A outer s H E hgd hr) (.inl rfl)
theorem nd__law_right : N__law_right.Nodup := by decide +kernel
theorem sc__law_right : FnScope N__law_right ["_law_m", "_law_lot", "_law_many"] (defScope s__law_right) := ⟨rfl, rfl, rfl, nd__law_right, rfl, by decide +kernel, by decide +kernel⟩
theorem b__law_right {P : Program} {w : World} {K : PySem.W.Frag} {mg : Str → Option Value} {base : Heap} {f : Addr} {f__law_met_all : Addr} {d__law_met_all : FuncData} {p__law_met_all : List Str} {f__law_like : Addr} {d__law_like : FuncData} {p__law_like : List Str} {f_is_closed : Addr} {d_is_closed : FuncData} {p_is_closed : List Str} {f_closed : Addr} {d_closed : FuncData} {p_closed : List Str} {f_turned : Addr} {d_turned : FuncData} {p_turned : List Str} {f__law_lot_from : Addr} {d__law_lot_from : FuncData} {p__law_lot_from : List Str} {f__law_parting : Addr} {d__law_parting : FuncData} {p__law_parting : List Str} {f__law_partings : Addr} {d__law_partings : FuncData} {p__law_partings : List Str} (T : Tx mg) (C__law_met_all : Fc P w K mg base "_law_met_all" 3 f__law_met_all d__law_met_all p__law_met_all [.dat, .dat] .dat fn__law_met_all) (C__law_like : Fc P w K mg base "_law_like" 1 f__law_like d__law_like p__law_like [.dat, .dat] .dat fn__law_like) (C_is_closed : FcX P w K mg base "is_closed" 7 f_is_closed d_is_closed p_is_closed [.dat, .dat] .dat fn_is_closed) (C_closed : FcX P w K mg base "closed" 7 f_closed d_closed p_closed [.dat, .dat] .dat fn_closed) (C_turned : FcX P w K mg base "turned" 7 f_turned d_turned p_turned [.dat, .dat] .dat fn_turned) (C__law_lot_from : Fc P w K mg base "_law_lot_from" 1 f__law_lot_from d__law_lot_from p__law_lot_from [.dat] .nd fn__law_lot_from) (C__law_parting : FcM P w K mg base "_law_parting" 4 f__law_parting d__law_parting p__law_parting [.dat] .dat fn__law_parting) (C__law_partings : Fc P w K mg base "_law_partings" 1 f__law_partings d__law_partings p__law_partings [.dat] .dat fn__law_partings) (W : Wd) (cdv : Value) (A : Around) (outer : List Env) (s : Shared) (H : Hp) (E : XK)
    (hgd : (A.deeper (PyProof.Rows.envOfC "_law_right" (defScope s__law_right) s.heap.objs.size f cdv)).guards = some []) (hr : Room 7 (A.deeper (PyProof.Rows.envOfC "_law_right" (defScope s__law_right) s.heap.objs.size f cdv))) :
    FSs (cxOf CX0 P w K mg base N__law_right "_law_right" (defScope s__law_right) f cdv A outer s H E).nox ⟨some W, [0], dk__law_right, .dat, EN⟩ [] [] (defBody s__law_right) S__law_right [] := by
  have nd := nd__law_right
  have hc : (cxOf CX0 P w K mg base N__law_right "_law_right" (defScope s__law_right) f cdv A outer s H E).nox.calm = true := rfl
  have hu : HU (cxOf CX0 P w K mg base N__law_right "_law_right" (defScope s__law_right) f cdv A outer s H E).nox := .of hr
  have hu1 := hu_1 hu
  have hu64 := hu_64 hu
  have hu65 := hu_65 hu
  have hW : (⟨some W, [0], dk__law_right, .dat, EN⟩ : Ct).W = some W := rfl
  exact (fss_cons (fs_set 3 (fr_f C__law_met_all hgd (hr.mono (by decide)) (fa_cons (fr_var .dat 1) (fa_cons (fr_var .dat 2) fa_nil))) nd) (fss_cons (fs_set 4 (fr_f C__law_met_all hgd (hr.mono (by decide)) (fa_cons (fr_var .dat 3) (fa_cons (fr_var .dat 2) fa_nil))) nd) (fss_cons (fs_if (Un := []) (ft_not (ft_val (fr_f C__law_like hgd (hr.mono (by decide)) (fa_cons (fe_of (fo_lst (n := 3) (fa_cons (fr_fN C_turned hgd (hr.mono (by decide)) (fa_cons (fr_var .dat 1) (fa_cons (fr_var .dat 2) fa_nil))) (fa_cons (fr_fN C_closed hgd (hr.mono (by decide)) (fa_cons (fr_var .dat 1) (fa_cons (fr_var .dat 2) fa_nil))) (fa_cons (fr_fN C_is_closed hgd (hr.mono (by decide)) (fa_cons (fr_var .dat 1) (fa_cons (fr_var .dat 2) fa_nil))) fa_nil))))) (fa_cons (fe_of (fo_lst (n := 3) (fa_cons (fr_var .dat 3) (fa_cons (fr_var .dat 4) (fa_cons (fe_cmp (ov_eq hu64) (fb (fr_var .dat 4)) (fb (fr_var .dat 1))) fa_nil))))) fa_nil))))) (fss_one (fs_ret fe_bl)) fss_nil) (fss_cons (fs_if (Un := []) (ft_not (ft_val (fr_f C__law_like hgd (hr.mono (by decide)) (fa_cons (fe_of (fo_lst (n := 4) (fa_cons (fr_fN C_turned hgd (hr.mono (by decide)) (fa_cons (fr_var .dat 4) (fa_cons (fr_var .dat 2) fa_nil))) (fa_cons (fr_fN C_closed hgd (hr.mono (by decide)) (fa_cons (fr_var .dat 3) (fa_cons (fr_var .dat 2) fa_nil))) (fa_cons (fr_fN C_is_closed hgd (hr.mono (by decide)) (fa_cons (fr_var .dat 3) (fa_cons (fr_var .dat 2) fa_nil))) (fa_cons (fr_fN C_is_closed hgd (hr.mono (by decide)) (fa_cons (fr_var .dat 4) (fa_cons (fr_var .dat 2) fa_nil))) fa_nil)))))) (fa_cons (fe_of (fo_lst (n := 4) (fa_cons (fr_var .dat 3) (fa_cons (fr_var .dat 3) (fa_cons fe_bl (fa_cons fe_bl fa_nil)))))) fa_nil))))) (fss_one (fs_ret fe_bl)) fss_nil) (fss_cons (fs_if (Un := []) (ft_cmp (ov_ne hu64) (fb (fe_of (fo_lc [("_law_one", 9)] hc nd (fi_t (fr_var .dat 1)) (fun _ _ _ _ _ => (fg_nm 9 nd)) (fun _ _ _ _ _ => (fts_one (ft_cmp (ov_notIn hu65) (fb (fr_var .dat 9)) (fb (fr_fN C_closed hgd (hr.mono (by decide)) (fa_cons (fr_var .dat 1) (fa_cons (fr_var .dat 2) fa_nil))))))) (fun _ _ _ _ _ => fe_int)))) (fb (fe_of (fo_lst (n := 0) fa_nil)))) (fss_one (fs_ret fe_bl)) fss_nil) (fss_cons (fs_set 5 (fe_w (fr_f C__law_lot_from hgd (hr.mono (by decide)) (fa_cons (fe_of (fo_cat (fo_callTy co_list T.b_list (fab_cons (fb (fr_var .dat 1)) fab_nil)) (fo_lst (n := 1) (fa_cons (fr_m 0 hW C__law_parting hgd (hr.mono (by decide)) (fa_cons (fr_var .dat 2) fa_nil)) fa_nil)))) fa_nil))) nd) (fss_cons (fs_asg (fe_tup (n := 2) (fa_cons (fr_fN C_turned hgd (hr.mono (by decide)) (fa_cons (fr_var .dat 5) (fa_cons (fr_var .dat 2) fa_nil))) (fa_cons (fr_fN C_closed hgd (hr.mono (by decide)) (fa_cons (fr_var .dat 5) (fa_cons (fr_var .dat 2) fa_nil))) fa_nil))) (fg_tup (n := 2) hc (fg_cons (fg_nm 7 nd) (fg_cons (fg_nm 8 nd) fg_nil)))) (fss_cons (fs_if (Un := []) (ft_w (fw_or (ft_cmp (ov_ne hu64) (fb (fe_of (fo_lc [("_law_one", 9)] hc nd (fi_t (fr_var .dat 7)) (fun _ _ _ _ _ => (fg_nm 9 nd)) (fun _ _ _ _ _ => (fts_one (ft_cmp (ov_notIn hu65) (fb (fr_var .dat 9)) (fb (fr_var .dat 3))))) (fun _ _ _ _ _ => fe_int)))) (fb (fe_of (fo_lst (n := 0) fa_nil)))) (fw_or1 (ft_cmp (ov_ne hu64) (fb (fe_of (fo_lc [("_law_one", 9)] hc nd (fi_t (fr_var .dat 4)) (fun _ _ _ _ _ => (fg_nm 9 nd)) (fun _ _ _ _ _ => (fts_one (ft_cmp (ov_notIn hu65) (fb (fr_var .dat 9)) (fb (fr_var .dat 8))))) (fun _ _ _ _ _ => fe_int)))) (fb (fe_of (fo_lst (n := 0) fa_nil))))))) (fss_one (fs_ret fe_bl)) fss_nil) (fss_cons (fs_wk (Un := []) (fs_setLc 6 [("_law_one", 9)] hc nd (fi_t (fr_var .dat 5)) (fun _ _ _ _ _ => (fg_nm 9 nd)) (fun _ _ _ _ _ => fts_nil) (fun _ _ _ _ _ => (fe_callB (cv_max1 hu) T.b_max (fab_cons (fb (fr_var .dat 9)) fab_nil))) (sw_true rfl rfl rfl rfl))) (fss_one (fs_ret (fe_or (fe_cmp (ov_eq hu64) (fb (fr_var .dat 2)) (fb fe_int)) (fe_or (fe_cmp (ov_eq hu64) (fb (fe_count (fr_var .dat 6) (fe_ix (fb (fr_var .dat 6)) fe_int))) (fb (fe_callB cv_len T.b_len (fab_cons (fb (fr_var .dat 6)) fab_nil)))) (fe_one (fe_and (fe_cmp (ov_eq hu64) (fb (fr_var .dat 7)) (fb (fe_tup (n := 0) fa_nil))) (fe_one (fe_cmp (ov_eq hu64) (fb (fe_callB cv_len T.b_len (fab_cons (fb (fr_var .dat 8)) fab_nil))) (fb (fe_callB cv_len T.b_len (fab_cons (fb (fr_f C__law_partings hgd (hr.mono (by decide)) (fa_cons (fr_var .dat 2) fa_nil))) fab_nil))))))))))))))))))))
theorem ok__law_right {P : Program} {w : World} {K : PySem.W.Frag} {mg : Str → Option Value} {base : Heap} {f : Addr} {fd : FuncData} {f__law_met_all : Addr} {d__law_met_all : FuncData} {p__law_met_all : List Str} {f__law_like : Addr} {d__law_like : FuncData} {p__law_like : List Str} {f_is_closed : Addr} {d_is_closed : FuncData} {p_is_closed : List Str} {f_closed : Addr} {d_closed : FuncData} {p_closed : List Str} {f_turned : Addr} {d_turned : FuncData} {p_turned : List Str} {f__law_lot_from : Addr} {d__law_lot_from : FuncData} {p__law_lot_from : List Str} {f__law_parting : Addr} {d__law_parting : FuncData} {p__law_parting : List Str} {f__law_partings : Addr} {d__law_partings : FuncData} {p__law_partings : List Str} (T : Tx mg) (F : Fun K "_law_right" "_law_right" s__law_right f fd) (C__law_met_all : Fc P w K mg base "_law_met_all" 3 f__law_met_all d__law_met_all p__law_met_all [.dat, .dat] .dat fn__law_met_all) (C__law_like : Fc P w K mg base "_law_like" 1 f__law_like d__law_like p__law_like [.dat, .dat] .dat fn__law_like) (C_is_closed : FcX P w K mg base "is_closed" 7 f_is_closed d_is_closed p_is_closed [.dat, .dat] .dat fn_is_closed) (C_closed : FcX P w K mg base "closed" 7 f_closed d_closed p_closed [.dat, .dat] .dat fn_closed) (C_turned : FcX P w K mg base "turned" 7 f_turned d_turned p_turned [.dat, .dat] .dat fn_turned) (C__law_lot_from : Fc P w K mg base "_law_lot_from" 1 f__law_lot_from d__law_lot_from p__law_lot_from [.dat] .nd fn__law_lot_from) (C__law_parting : FcM P w K mg base "_law_parting" 4 f__law_parting d__law_parting p__law_parting [.dat] .dat fn__law_parting) (C__law_partings : Fc P w K mg base "_law_partings" 1 f__law_partings d__law_partings p__law_partings [.dat] .dat fn__law_partings) :
    FnV P w K mg base CX0 8 f fd ["_law_m", "_law_lot", "_law_many"] (spM K [.dat, .dat] .dat fn__law_right) :=
  fn_M F sc__law_right rfl (fun i kk h => match i, h with | 0, h => by cases h; rfl | 1, h => by cases h; rfl | n + 2, h => by cases h) (fun W cdv A outer s H E hgd hr => b__law_right T C__law_met_all C__law_like C_is_closed C_closed C_turned C__law_lot_from C__law_parting C__law_partings W cdv A outer s H E hgd hr) (.inl rfl)
theorem nd__law_twice_bad : N__law_twice_bad.Nodup := by decide +kernel
theorem sc__law_twice_bad : FnScope N__law_twice_bad ["_law_m", "_law_lot", "_law_many"] (defScope s__law_twice_bad) := ⟨rfl, rfl, rfl, nd__law_twice_bad, rfl, by decide +kernel, by decide +kernel⟩
theorem b__law_twice_bad {P : Program} {w : World} {K : PySem.W.Frag} {mg : Str → Option Value} {base : Heap} {f : Addr} {f__law_parting : Addr} {d__law_parting : FuncData} {p__law_parting : List Str} {f__law_of : Addr} {d__law_of : FuncData} {p__law_of : List Str} {f__law_draw : Addr} {d__law_draw : FuncData} {p__law_draw : List Str} (T : Tx mg) (C__law_parting : FcM P w K mg base "_law_parting" 4 f__law_parting d__law_parting p__law_parting [.dat] .dat fn__law_parting) (C__law_of : FcM P w K mg base "_law_of" 4 f__law_of d__law_of p__law_of [.dat] .dat fn__law_of) (C__law_draw : FcM P w K mg base "_law_draw" 3 f__law_draw d__law_draw p__law_draw [.dat] .dat fn__law_draw) (W : Wd) (cdv : Value) (A : Around) (outer : List Env) (s : Shared) (H : Hp) (E : XK)
    (hgd : (A.deeper (PyProof.Rows.envOfC "_law_twice_bad" (defScope s__law_twice_bad) s.heap.objs.size f cdv)).guards = some []) (hr : Room 4 (A.deeper (PyProof.Rows.envOfC "_law_twice_bad" (defScope s__law_twice_bad) s.heap.objs.size f cdv))) :
    FSs (cxOf CX0 P w K mg base N__law_twice_bad "_law_twice_bad" (defScope s__law_twice_bad) f cdv A outer s H E).nox ⟨some W, [0], dk__law_twice_bad, .dat, EN⟩ [] [] (defBody s__law_twice_bad) S__law_twice_bad [] := by
  have nd := nd__law_twice_bad
  have hc : (cxOf CX0 P w K mg base N__law_twice_bad "_law_twice_bad" (defScope s__law_twice_bad) f cdv A outer s H E).nox.calm = true := rfl
  have hu : HU (cxOf CX0 P w K mg base N__law_twice_bad "_law_twice_bad" (defScope s__law_twice_bad) f cdv A outer s H E).nox := .of hr
  have hu1 := hu_1 hu
  have hu64 := hu_64 hu
  have hu65 := hu_65 hu
  have hW : (⟨some W, [0], dk__law_twice_bad, .dat, EN⟩ : Ct).W = some W := rfl
  exact (fss_cons (fs_set 3 (fr_m 0 hW C__law_parting hgd (hr.mono (by decide)) (fa_cons (fr_var .dat 2) fa_nil)) nd) (fss_cons (fs_set 4 (fr_m 0 hW C__law_of hgd (hr.mono (by decide)) (fa_cons (fe_of (fo_lst (n := 4) (fa_cons fe_non (fa_cons (fe_of (fo_callTy co_list T.b_list (fab_cons (fb (fr_var .dat 3)) fab_nil))) (fa_cons (fe_binS ov_add (fr_var .dat 3) (fe_tup (n := 1) (fa_cons fe_int fa_nil))) (fa_cons (fe_binS ov_add (fe_tup (n := 1) (fa_cons fe_int fa_nil)) (fe_sl (fr_var .dat 3) (fp_some fe_int) fp_none)) fa_nil)))))) fa_nil)) nd) (fss_one (fs_ret (fr_if (ft_cmp (ov_eq hu64) (fb (fr_m 0 hW C__law_draw hgd (hr.mono (by decide)) (fa_cons fe_int fa_nil))) (fb fe_int)) (fe_tup (n := 2) (fa_cons (fe_binS ov_add (fr_var .dat 1) (fe_tup (n := 3) (fa_cons (fr_var .dat 4) (fa_cons (fr_var .dat 3) (fa_cons (fr_var .dat 3) fa_nil))))) (fa_cons fe_str fa_nil))) (fe_tup (n := 2) (fa_cons (fe_binS ov_add (fe_tup (n := 3) (fa_cons (fr_var .dat 3) (fa_cons (fr_var .dat 3) (fa_cons (fr_var .dat 4) fa_nil)))) (fr_var .dat 1)) (fa_cons fe_str fa_nil))))))))
theorem ok__law_twice_bad {P : Program} {w : World} {K : PySem.W.Frag} {mg : Str → Option Value} {base : Heap} {f : Addr} {fd : FuncData} {f__law_parting : Addr} {d__law_parting : FuncData} {p__law_parting : List Str} {f__law_of : Addr} {d__law_of : FuncData} {p__law_of : List Str} {f__law_draw : Addr} {d__law_draw : FuncData} {p__law_draw : List Str} (T : Tx mg) (F : Fun K "_law_twice_bad" "_law_twice_bad" s__law_twice_bad f fd) (C__law_parting : FcM P w K mg base "_law_parting" 4 f__law_parting d__law_parting p__law_parting [.dat] .dat fn__law_parting) (C__law_of : FcM P w K mg base "_law_of" 4 f__law_of d__law_of p__law_of [.dat] .dat fn__law_of) (C__law_draw : FcM P w K mg base "_law_draw" 3 f__law_draw d__law_draw p__law_draw [.dat] .dat fn__law_draw) :
    FnV P w K mg base CX0 5 f fd ["_law_m", "_law_lot", "_law_many"] (spM K [.dat, .dat] .dat fn__law_twice_bad) :=
  fn_M F sc__law_twice_bad rfl (fun i kk h => match i, h with | 0, h => by cases h; rfl | 1, h => by cases h; rfl | n + 2, h => by cases h) (fun W cdv A outer s H E hgd hr => b__law_twice_bad T C__law_parting C__law_of C__law_draw W cdv A outer s H E hgd hr) (.inl rfl)
end K15
namespace K15
open PySem L2 VL
theorem mixed_ev {c n : Int} (hn : 0 ≤ n ∧ n < 10000000000) (m : MS) : Ev (fn__law_mixed [.int c, .int n]) m (.int (mixI c n)) m := by
  refine v_runR (v_sq (v_set 2 (v_e2 (v_e2 (v_e2 (v_eL (v_aC (v_e2 (v_e2 (v_var 0 rfl) (v_e2 (v_c _) (v_e2 (v_c _) (v_var 1 rfl) (mulD_l (by decide))) rfl) (mulD_r (by omega))) (v_c _) (mulD_r (by decide))) v_aN) rfl) (v_c _) (modD_p (by decide)))
    (v_e2 (v_e2 (v_c _) (v_var 1 rfl) (mulD_l (by decide))) (v_var 1 rfl) (mulD_r (by omega))) rfl) (v_e2 (v_c _) (v_var 1 rfl) (mulD_l (by decide))) rfl))
    (v_ret (v_e2 (v_e2 (v_eL (v_aC (v_e2 (v_var 2 rfl) (v_c _) (mulD_r (by decide))) v_aN) rfl) (v_c _) (modD_p (by decide))) (v_c _) (fdivD_p (by decide)))))
section
variable {P : Program} {w : World} {K : PySem.W.Frag} {mg : Str → Option Value} {base : Heap}
abbrev s__law_draw : Stmt := top 32
def N__law_draw : List Str := ["_law_m", "_law_limit", "_law_n", "_law_lot", "_law_here", "_law_cell"]
theorem nd__law_draw : N__law_draw.Nodup := by decide +kernel
theorem sc__law_draw : FnScope N__law_draw ["_law_m", "_law_limit"] (defScope s__law_draw) := ⟨rfl, rfl, rfl, nd__law_draw, rfl, by decide +kernel, by decide +kernel⟩
def dk__law_draw : Nat → Kd
  | 0 => .dic
  | _ => .dat
theorem ok__law_draw {f f1 : Addr} {fd d1 : FuncData} {p1 : List Str} (T : Tx mg) (F : Fun K "_law_draw" "_law_draw" s__law_draw f fd) (C_ : Fc P w K mg base "_law_mixed" 1 f1 d1 p1 [.dat, .dat] .dat fn__law_mixed) :
    FnV P w K mg base CX0 2 f fd ["_law_m", "_law_limit"] (spM K [.dat] .dat fnDraw) := by
  refine fnV_of F sc__law_draw (spM_len rfl) fun cdv A outer s H vs Q E hga hr hsp => ?_
  obtain ⟨W, Zs, ds, m, vs', rfl, hw, hz, hd, hA, hG⟩ := hsp
  have hgd : (cxOf CX0 P w K mg base N__law_draw "_law_draw" (defScope s__law_draw) f cdv A outer s H E).nox.A.guards = some [] := hga
  have nd := nd__law_draw
  have hc : (cxOf CX0 P w K mg base N__law_draw "_law_draw" (defScope s__law_draw) f cdv A outer s H E).nox.calm = true := rfl
  have hu : HU (cxOf CX0 P w K mg base N__law_draw "_law_draw" (defScope s__law_draw) f cdv A outer s H E).nox := .of hr
  have hu1 := hu_1 hu
  have hu64 := hu_64 hu
  refine ⟨_, (pss_cons (ps_set (i := 2) nd rfl (Or.inl rfl) (FR.pe (c := ⟨none, [], dk__law_draw, .dat, EN⟩) (U := []) (k := .dat) (fe_dgK 0 hu1 fe_str)))
    (pss_cons (ps_dput hu1 (pv 0) pe_str (pe_op op_add (pv 2) pe_int) rfl)
    (pss_cons (ps_if (FT.pt (c := ⟨none, [], dk__law_draw, .dat, EN⟩) (U := []) (ft_cmp (ov_ne hu64) (fb (fe_dgK 0 hu1 fe_str)) (fb (fe_of (fo_lst (n := 0) fa_nil)))))
      (pss_cons (ps_set (i := 3) nd rfl (Or.inl rfl) (pe_dget hu1 (pv 0) pe_str (by intro _ _; rfl)))
      (pss_cons (ps_set (i := 4) nd rfl (Or.inl rfl) (FR.pe (c := ⟨none, [], dk__law_draw, .dat, EN⟩) (U := []) (k := .dat) (fe_bin ov_mod (fb (fe_callTy cv_int T.b_int (fab_cons (fb (fr_var .dat 2)) fab_nil))) (fb (fe_callB cv_len T.b_len (fab_cons (fb (fr_var .dat 3)) fab_nil))))))
      (pss_cons (ps_set (i := 5) nd rfl (Or.inl rfl) (FR.pe (c := ⟨none, [], dk__law_draw, .dat, EN⟩) (U := []) (k := .dat) (fe_ix (fb (fr_var .dat 3)) (fr_var .dat 4))))
      (pss_one (ps_if (FT.pt (c := ⟨none, [], dk__law_draw, .dat, EN⟩) (U := []) (ft_cmp ov_gt (fb (fr_var .dat 5)) (fb fe_int)))
        (pss_cons (ps_asg (FR.pe (c := ⟨none, [], dk__law_draw, .dat, EN⟩) (U := []) (k := .dat) (fe_bin ov_fdiv (fb (fr_var .dat 5)) (fb (fr_var .dat 1)))) (pg_sub (pv 3) (pv 4) set_list))
        (pss_one (ps_ret (FR.pe (c := ⟨none, [], dk__law_draw, .dat, EN⟩) (U := []) (k := .dat) (fe_bin ov_mod (fb (fe_callTy cv_int T.b_int (fab_cons (fb (fr_var .dat 5)) fab_nil))) (fb (fr_var .dat 1)))))))
        pss_nil)))))
      pss_nil)
    (pss_cons (ps_set (i := 3) nd rfl (Or.inl rfl) (FR.pe (c := ⟨none, [], dk__law_draw, .dat, EN⟩) (U := []) (k := .dat) (fe_dgK 0 hu1 fe_str)))
    (pss_one (ps_ret (FR.pe (c := ⟨none, [], dk__law_draw, .dat, EN⟩) (U := []) (k := .dat)
      (fe_bin ov_mod (fb (fe_callTy cv_int T.b_int (fab_cons (fb (fr_f C_ hgd (hr.mono (by decide)) (fa_cons (fr_f C_ hgd (hr.mono (by decide)) (fa_cons (fe_binS ov_add (fe_ix (fb (fr_var .dat 3)) (fe_bin ov_mod (fb (fe_callTy cv_int T.b_int (fab_cons (fb (fr_var .dat 2)) fab_nil))) (fb fe_int)))
        (fe_bin ov_mul (fb fe_int) (fb (fe_bin ov_fdiv (fb (fr_var .dat 2)) (fb fe_int))))) (fa_cons (fr_var .dat 2) fa_nil))) (fa_cons (fe_binS ov_add (fr_var .dat 2) fe_int) fa_nil)))) fab_nil))) (fb (fr_var .dat 1)))))))))
    : PSs (cxOf CX0 P w K mg base N__law_draw "_law_draw" (defScope s__law_draw) f cdv A outer s H E).nox _ _).nox, ?_⟩
  cases hA' : vs' with
  | nil => subst hA'; cases ds <;> first | exact hG.elim | cases hA
  | cons v vs1 =>
    subst hA'
    cases ds with
    | nil => cases hA
    | cons d ds1 =>
      have hlen := hA.len
      obtain rfl : vs1 = [] := List.eq_nil_of_length_eq_zero (by simpa using hlen.1)
      obtain rfl : ds1 = [] := List.eq_nil_of_length_eq_zero (by simpa using hlen.2)
      have hd1 : Dq K (hide Zs H) v d := hA.1
      cases d with
      | int L =>
        cases hd1
        obtain ⟨cells, great, n⟩ := m
        obtain ⟨⟨c1, c2, c3, c4, c5⟩, hG⟩ := draw_inv (show Good (drawM L (cells, great, n)) _ _ from hG)
        obtain ⟨ap1, ap2⟩ := hd.apart
        -- _law_n
        refine tE_use (en := [some (mDt (cells, great, n)), some (.int L), none, none, none, none]) (d := .int n) ⟨mDt_res hd, Dq.int L, trivial⟩ (v_dgK rfl (v_c _) (dg_spot _ _ _)) fun v1 H1 s1 q1 => ?_
        cases (show Dq K H1 v1 (.int n) from q1)
        have hd1 := hd.same s1
        obtain ⟨g1, g2, g3⟩ := hd1.at
        -- the spot
        refine ⟨_, rfl, n, 1, rfl, rfl, _, rfl, W.am, _, rfl, DPut.k (k := .inr "spot") g1 (by show 3 < sizeLine; rw [sizeLine_eq]; decide), ?_⟩
        rw [m_put]
        have hd2 : DrawOk (some W) (upd H1 W.am (.dK (mKv W (n + 1)))) (cells, great, n + 1) := DrawOk.of upd_same (rd_upd g2 ap1.symm) (by rw [upd_ne ap2.symm]; exact g3)
        have sw2 : SameW (some W) H (upd H1 W.am (.dK (mKv W (n + 1)))) := fun b o hb e => by
          rw [upd_ne (hb W rfl).1]
          exact s1 b o e
        generalize upd H1 W.am (.dK (mKv W (n + 1))) = H2 at hd2 sw2 ⊢
        -- the test
        refine tT_use (en := [some (mDt (cells, great, n + 1)), some (.int L), some (.int n), none, none, none]) (b := !great.isEmpty) ⟨mDt_res hd2, Dq.int L, Dq.int n, trivial⟩ (v_tV (v_e2 (v_dgK rfl (v_c _) (dg_great _ _ _)) (v_eL v_aN rfl) ne_nil) rfl) fun H3 s3 => ?_
        have hd3 := hd2.same s3
        have sw3 : SameW (some W) H H3 := sw2.trans (.of s3)
        by_cases hne : great = []
        · rcases hG with ⟨g, hg, _⟩ | ⟨_, r, hr1, hk⟩
          · rw [hne] at hg
            cases hg
          · have e : (!great.isEmpty) = false := by rw [hne]; rfl
            rw [e]
            refine iteF ?_
            have hd4 := hd3
            have sw4 := sw3
            obtain ⟨c, hc1, rfl⟩ := Option.map_eq_some_iff.mp hr1
            refine tE_use (en := [some (mDt (cells, great, n + 1)), some (.int L), some (.int n), none, none, none]) (d := .list (cells.map .int)) ⟨mDt_res hd4, Dq.int L, Dq.int n, trivial⟩ (v_dgK rfl (v_c _) (dg_cells _ _ _)) fun v5 H5 s5 q5 => ?_
            refine tE_use (en := [none, some (.int L), some (.int n), some (.list (cells.map .int)), none, none]) (d := .int (mixI (mixI (c + 31 * (n / 64)) n) (n + 7) % L)) ⟨Dq.int L, Dq.int n, q5, trivial⟩
              (v_e2 (v_eL (v_aC (v_call (v_aC (v_call (v_aC (v_e2 (v_e2 (v_var 3 rfl) (v_e2 (v_eL (v_aC (v_var 2 rfl) v_aN) rfl) (v_c _) (modD_p (by decide))) (at_int (Int.emod_nonneg _ (by decide)) hc1)) (v_e2 (v_c _) (v_e2 (v_var 2 rfl) (v_c _) (fdivD_p (by decide))) (mulD_l (by decide))) rfl)
                (v_aC (v_var 2 rfl) v_aN)) (mixed_ev ⟨c3, by omega⟩ _)) (v_aC (v_e2 (v_var 2 rfl) (v_c _) rfl) v_aN)) (mixed_ev ⟨by omega, by omega⟩ _)) v_aN) rfl) (v_var 1 rfl) (modD_p c1)) fun v6 H6 s6 q6 => ?_
            cases (show Dq K H6 v6 (.int _) from q6)
            have s46 := Same.trans s5 s6
            exact hk _ H6 (sw4.trans (.of s46)) (hd4.same s46) (Dq.int _)
        · have e : (!great.isEmpty) = true := by cases great with | nil => exact absurd rfl hne | cons _ _ => rfl
          rw [e]
          refine iteT ?_
          have hlen : 0 < (great.length : Int) := by
            have : great.length ≠ 0 := fun q => hne (List.eq_nil_of_length_eq_zero q)
            omega
          have i0 : 0 ≤ n % (great.length : Int) := Int.emod_nonneg _ (by omega)
          have i1 : n % (great.length : Int) < (great.length : Int) := Int.emod_lt_of_pos _ hlen
          obtain ⟨g, hgat⟩ : ∃ g, great[(n % (great.length : Int)).toNat]? = some g := ⟨_, List.getElem?_eq_getElem (by omega)⟩
          -- _law_lot, _law_here, _law_cell
          obtain ⟨t1, t2, t3⟩ := hd3.at
          refine ⟨_, rfl, W.am, .ref W.gA, rfl, by rw [← m_great W (n + 1)]; exact DGet.k (k := .inr "great") t1, ?_⟩
          have rg : Dq K H3 (.ref W.gA) (.list (great.map .int)) := .lst (.inl t3) (DqAll.ofInts _)
          refine tE_use (en := [none, some (.int L), some (.int n), some (.list (great.map .int)), none, none]) (d := .int (n % (great.length : Int))) ⟨Dq.int L, Dq.int n, rg, trivial⟩
            (v_e2 (v_eL (v_aC (v_var 2 rfl) v_aN) rfl) (v_eL (v_aC (v_var 3 rfl) v_aN) (by show some (PyData.int ((great.map PyData.int).length : Nat)) = _; rw [List.length_map])) (modD_p hlen)) fun v4 H4 s4 q4 => ?_
          cases (show Dq K H4 v4 (.int _) from q4)
          refine tE_use (en := [none, some (.int L), some (.int n), some (.list (great.map .int)), some (.int (n % (great.length : Int))), none]) (d := .int g) ⟨Dq.int L, Dq.int n, Dq.mono s4 rg, Dq.int _, trivial⟩
            (v_e2 (v_var 3 rfl) (v_var 4 rfl) (at_int i0 hgat)) fun v5 H5 s5 q5 => ?_
          cases (show Dq K H5 v5 (.int _) from q5)
          refine tT_use (en := [none, some (.int L), some (.int n), none, none, some (.int g)]) (b := decide (0 < g)) ⟨Dq.int L, Dq.int n, Dq.int g, trivial⟩ (v_tV (v_e2 (v_var 5 rfl) (v_c _) rfl) rfl) fun H6 s6 => ?_
          have s36 := Same.trans s4 (Same.trans s5 s6)
          have hd6 := hd3.same s36
          have sw6 := sw3.trans (.of s36)
          by_cases hg : 0 < g
          · rw [decide_eq_true hg]
            refine iteT ?_
            rcases hG with ⟨g', hg', _, hk⟩ | ⟨h1, _⟩
            · rw [hgat] at hg'
              cases hg'
              refine tE_use (en := [none, some (.int L), none, none, none, some (.int g)]) (d := .int (g / L)) ⟨Dq.int L, Dq.int g, trivial⟩ (v_e2 (v_var 5 rfl) (v_var 1 rfl) (fdivD_p ⟨c1, c2⟩)) fun v7 H7 s7 q7 => ?_
              cases (show Dq K H7 v7 (.int _) from q7)
              have hd7 := hd6.same s7
              have sw7 := sw6.trans (.of s7)
              obtain ⟨u1, u2, u3⟩ := hd7.at
              have ap3 : W.cA ≠ W.gA := W.ne
              refine ⟨_, rfl, _, rfl, W.gA, great.map V.int, _, (n % (great.length : Int)).toNat, rfl, rfl, u3, ?_, ?_⟩
              · rw [List.length_map]
                have e2 : n % (great.length : Int) = (((n % (great.length : Int)).toNat : Nat) : Int) := by omega
                rw [e2]
                exact ixN_at (by omega)
              · have e3 : (great.map V.int).set (n % (great.length : Int)).toNat (.int (g / L)) = (great.set (n % (great.length : Int)).toNat (g / L)).map V.int := by rw [List.map_set]
                rw [e3]
                have hd8 : DrawOk (some W) (upd H7 W.gA (.lst ((great.set (n % (great.length : Int)).toNat (g / L)).map V.int))) (cells, great.set (n % (great.length : Int)).toNat (g / L), n + 1) := DrawOk.of (by rw [upd_ne ap2]; exact u1) (rd_upd u2 ap3) upd_same
                have sw8 : SameW (some W) H (upd H7 W.gA (.lst ((great.set (n % (great.length : Int)).toNat (g / L)).map V.int))) := fun b o hb q => by
                  rw [upd_ne (hb W rfl).2]
                  exact sw7 b o hb q
                generalize upd H7 W.gA (.lst ((great.set (n % (great.length : Int)).toNat (g / L)).map V.int)) = H8 at hd8 sw8 ⊢
                refine tE_use (en := [none, some (.int L), none, none, none, some (.int g)]) (d := .int (g % L)) ⟨Dq.int L, Dq.int g, trivial⟩ (v_e2 (v_eL (v_aC (v_var 5 rfl) v_aN) rfl) (v_var 1 rfl) (modD_p c1)) fun v9 H9 s9 q9 => ?_
                cases (show Dq K H9 v9 (.int _) from q9)
                exact hk _ H9 (sw8.trans (.of s9)) (hd8.same s9) (Dq.int _)
            · rcases h1 with ⟨g', hg', hn⟩ | h1
              · rw [hgat] at hg'
                cases hg'
                exact absurd hg hn
              · exact absurd h1 hne
          · rw [decide_eq_false hg]
            refine iteF ?_
            rcases hG with ⟨g', hg', hp, _⟩ | ⟨_, r, hr1, hk⟩
            · rw [hgat] at hg'
              cases hg'
              exact absurd hp hg
            · have hd4 := hd6
              have sw4 := sw6
              obtain ⟨c, hc1, rfl⟩ := Option.map_eq_some_iff.mp hr1
              refine tE_use (en := [some (mDt (cells, great, n + 1)), some (.int L), some (.int n), none, none, none]) (d := .list (cells.map .int)) ⟨mDt_res hd4, Dq.int L, Dq.int n, trivial⟩ (v_dgK rfl (v_c _) (dg_cells _ _ _)) fun v5 H5 s5 q5 => ?_
              refine tE_use (en := [none, some (.int L), some (.int n), some (.list (cells.map .int)), none, none]) (d := .int (mixI (mixI (c + 31 * (n / 64)) n) (n + 7) % L)) ⟨Dq.int L, Dq.int n, q5, trivial⟩
                (v_e2 (v_eL (v_aC (v_call (v_aC (v_call (v_aC (v_e2 (v_e2 (v_var 3 rfl) (v_e2 (v_eL (v_aC (v_var 2 rfl) v_aN) rfl) (v_c _) (modD_p (by decide))) (at_int (Int.emod_nonneg _ (by decide)) hc1)) (v_e2 (v_c _) (v_e2 (v_var 2 rfl) (v_c _) (fdivD_p (by decide))) (mulD_l (by decide))) rfl)
                  (v_aC (v_var 2 rfl) v_aN)) (mixed_ev ⟨c3, by omega⟩ _)) (v_aC (v_e2 (v_var 2 rfl) (v_c _) rfl) v_aN)) (mixed_ev ⟨by omega, by omega⟩ _)) v_aN) rfl) (v_var 1 rfl) (modD_p c1)) fun v6 H6 s6 q6 => ?_
              cases (show Dq K H6 v6 (.int _) from q6)
              have s46 := Same.trans s5 s6
              exact hk _ H6 (sw4.trans (.of s46)) (hd4.same s46) (Dq.int _)
      | _ => exact hG.elim
end
end K15
namespace K15
open PySem L2 VL
/-- the folded cells: 64 numbers -/
theorem folded_ev (ns : List Int) (m : MS) : ∃ cells : List Int, cells.length = 64 ∧ Ev (fn__law_folded [.list (ns.map .int)]) m (.list (cells.map .int)) m := by
  -- the first cells
  have h1 : Ev (lcF (iA rng1 (aC (eC (.int 64)) aN)) (gNm 2) tYs (e2 addD (eC (.int 17)) (eVar 2)) [2] [some (.list (ns.map PyData.int)), none, none, none]) m (.list (((List.range 64).map fun i => (17 + (0 + (i : Nat)) : Int)).map .int)) m := by
    refine v_lc (v_iA (v_aC (v_c _) v_aN) rfl) (xs := _) ?_ (by rw [List.length_map, List.length_map, List.length_range]; decide)
    have := v_lcM (f := lcStep (gNm 2) tYs (e2 addD (eC (.int 17)) (eVar 2)) (wipeE [some (.list (ns.map PyData.int)), none, none, none] [2])) (fun d => match d with | .int i => .int (17 + i) | d => d) (m := m) (ds := rngI 0 64) fun d hd => by
      obtain ⟨i, _, rfl⟩ := mem_rngI hd
      exact v_stepT (v_gNm 2 _ _ m) (v_tYs _ m) (v_e2 (v_c _) (v_var 2 rfl) rfl)
    rw [show (rngI 0 (64 : Int).toNat) = rngI 0 64 from rfl] 
    have e : (rngI 0 64).map (fun d => match d with | .int i => PyData.int (17 + i) | d => d) = ((List.range 64).map fun i => (17 + (0 + (i : Nat)) : Int)).map .int := by
      unfold rngI
      rw [List.map_map, List.map_map]
      rfl
    rw [← e]
    exact this
  -- the script folded in
  let I : Nat → SE → MS → Prop := fun _ en m' => m' = m ∧ ∃ (cells : List Int) (x2 x3 : Option D), cells.length = 64 ∧ en = [some (.list (ns.map PyData.int)), some (.list (cells.map .int)), x2, x3]
  obtain ⟨e2', m2, l1, rfl, cells2, y2, y3, hc2, rfl⟩ := v_loop I (Gt := gTp 2 (gC (gNm 2) (gC (gNm 3) gN0))) (B := sSetIx 1 (e2 modD (eL (one1 intD) (aC (eVar 2) aN)) (eC (.int 64))) (e2 modD (eL (one1 intD) (aC (e2 addD (e2 mulD (e2 ixD (eVar 1) (e2 modD (eL (one1 intD) (aC (eVar 2) aN)) (eC (.int 64)))) (eC (.int 48271))) (eVar 3)) aN)) (eC (.int 2147483647)))) (enumD (ns.map .int)) 0
    [some (.list (ns.map PyData.int)), some (.list (((List.range 64).map fun i => (17 + (0 + (i : Nat)) : Int)).map .int)), none, none] m ⟨rfl, _, _, _, by simp, rfl⟩ (by
    rintro j d en m' hd ⟨rfl, cells, x2, x3, hc, rfl⟩
    obtain ⟨a, ha, rfl⟩ := enumD_inv hd
    obtain ⟨c, hc1, rfl⟩ := map_inv ha
    have p0 : 0 ≤ ((j : Nat) : Int) % 64 := Int.emod_nonneg _ (by decide)
    have p1 : ((j : Nat) : Int) % 64 < 64 := Int.emod_lt_of_pos _ (by decide)
    refine ⟨_, _, _, _, v_gTp2 2 3 _ _ _ m', .inl (v_setIx 1 (v_e2 (v_eL (v_aC (v_e2 (v_e2 (v_e2 (v_var 1 rfl) (v_e2 (v_eL (v_aC (v_var 2 rfl) v_aN) rfl) (v_c _) (modD_p (by decide))) (at_int p0 (List.getElem?_eq_getElem (by omega)))) (v_c _) (mulD_r (by decide))) (v_var 3 rfl) rfl) v_aN) rfl) (v_c _) (modD_p (by decide)))
      rfl (v_e2 (v_eL (v_aC (v_var 2 rfl) v_aN) rfl) (v_c _) (modD_p (by decide))) (setIx_int p0 (by omega))), rfl, _, _, _, ?_, rfl⟩
    rw [List.length_set]
    exact hc)
  obtain ⟨e3', m3, l2, rfl, cells3, z2, z3, hc3, rfl⟩ := v_loop I (Gt := gNm 2) (B := sSetIx 1 (eVar 2) (e2 modD (eL (one1 intD) (aC (e2 addD (e2 ixD (eVar 1) (eVar 2)) (e2 mulD (e2 ixD (eVar 1) (e2 subD (eVar 2) (eC (.int 1)))) (eC (.int 16807)))) aN)) (eC (.int 2147483647)))) (rngI 1 63) 0
    [some (.list (ns.map PyData.int)), some (.list (cells2.map .int)), y2, y3] m2 ⟨rfl, _, _, _, hc2, rfl⟩ (by
    rintro j d en m' hd ⟨rfl, cells, x2, x3, hc, rfl⟩
    obtain ⟨hj, rfl⟩ := rngI_inv hd
    refine ⟨_, _, _, _, v_gNm 2 _ _ m', .inl (v_setIx 1 (v_e2 (v_eL (v_aC (v_e2 (v_e2 (v_var 1 rfl) (v_var 2 rfl) (at_int (by omega) (List.getElem?_eq_getElem (by omega)))) (v_e2 (v_e2 (v_var 1 rfl) (v_e2 (v_var 2 rfl) (v_c _) rfl) (at_int (by omega) (List.getElem?_eq_getElem (by omega)))) (v_c _) (mulD_r (by decide))) rfl) v_aN) rfl) (v_c _) (modD_p (by decide)))
      rfl (v_var 2 rfl) (setIx_int (by omega) (by omega))), rfl, _, _, _, ?_, rfl⟩
    rw [List.length_set]
    exact hc)
  exact ⟨cells3, hc3, v_runR (v_sq (v_setO 1 h1 (by show 1 < 4; decide)) (v_sq (v_for (v_iA (v_aC (v_var 0 rfl) v_aN) rfl) l1) (v_sq (v_for (v_iA (v_aC (v_c _) (v_aC (v_c _) v_aN)) rfl) l2) (v_ret (v_var 1 rfl)))))⟩
end K15
namespace K15
open PySem L2 VL
section
variable {P : Program} {w : World} {K : PySem.W.Frag} {mg : Str → Option Value} {base : Heap}
/-- the machine begun: some cells, some great numbers -/
def spB (K : PySem.W.Frag) : Sp := fun vs H Q E => ∃ (ns : List Int) (v : V), vs = [v] ∧ Dq K H v (.list (ns.map .int)) ∧ ns.length ≤ lineN ∧
  ∀ (W : Wd) (H' : Hp) (cells great : List Int), Same H H' → H W.am = none → H W.gA = none → cells.length = 64 → DrawOk (some W) H' (cells, great, 0) → Q (.ref W.am) H'
abbrev s__law_begun : Stmt := top 33
def N__law_begun : List Str := ["_law_script", "_law_m", "_law_cell"]
theorem nd__law_begun : N__law_begun.Nodup := by decide +kernel
theorem sc__law_begun : FnScope N__law_begun ["_law_script"] (defScope s__law_begun) := ⟨rfl, rfl, rfl, nd__law_begun, rfl, by decide +kernel, by decide +kernel⟩
def dk__law_begun : Nat → Kd
  | _ => .dat
theorem hgA0 {H H2 : Hp} {gA : Addr} (n : H2 gA = none) (s : ∀ b o, H b = some o → H2 b = some o) : H gA = none := by
  cases q : H gA with
  | none => rfl
  | some o => rw [s _ _ q] at n; cases n
theorem ok__law_begun {f f1 : Addr} {fd d1 : FuncData} {p1 : List Str} (T : Tx mg) (F : Fun K "_law_begun" "_law_begun" s__law_begun f fd) (C_ : Fc P w K mg base "_law_folded" 1 f1 d1 p1 [.dat] .dat fn__law_folded) :
    FnV P w K mg base CX0 2 f fd ["_law_script"] (spB K) := by
  refine fnV_of F sc__law_begun (fun vs H Q E ⟨ns, v, e, _⟩ => by rw [e]; rfl) fun cdv A outer s H vs Q E hga hr hsp => ?_
  obtain ⟨ns, v, rfl, hv, hln, hQ⟩ := hsp
  have hgd : (cxOf CX0 P w K mg base N__law_begun "_law_begun" (defScope s__law_begun) f cdv A outer s H E).nox.A.guards = some [] := hga
  have nd := nd__law_begun
  have hc : (cxOf CX0 P w K mg base N__law_begun "_law_begun" (defScope s__law_begun) f cdv A outer s H E).nox.calm = true := rfl
  have hu : HU (cxOf CX0 P w K mg base N__law_begun "_law_begun" (defScope s__law_begun) f cdv A outer s H E).nox := .of hr
  have hu1 := hu_1 hu
  refine ⟨_, (pss_cons (ps_set (i := 1) nd rfl (Or.inl rfl) (pe_disp (pps_cons pe_str (FR.pe (c := ⟨none, [], dk__law_begun, .dat, EN⟩) (U := []) (k := .dat) (fr_f C_ hgd (hr.mono (by decide)) (fa_cons (fr_var .dat 0) fa_nil)))
      (pps_cons pe_str (pe_lst pa_nil) (pps_cons pe_str pe_int pps_nil))) rfl rfl (by intro q; cases q) (by decide)))
    (pss_cons (ps_dput hu1 (pv 1) pe_str (FO.pe (c := ⟨none, [], dk__law_begun, .dat, EN⟩) (U := []) (k := .dat) ((fo_lc [("_law_cell", 2)] hc nd (fi_l (fr_var .dat 0)) (fun _ _ _ _ _ => fg_nm 2 nd) (fun _ _ _ _ _ => fts_nil)
      (fun _ _ _ _ _ => fe_if (ft_cmp ov_ge (fb (fr_var .dat 2)) (fb (fe_bin ov_pow (fb fe_int) (fb fe_int)))) (fr_var .dat 2) fe_int)))) rfl)
    (pss_one (ps_ret (pv 1))))
    : PSs (cxOf CX0 P w K mg base N__law_begun "_law_begun" (defScope s__law_begun) f cdv A outer s H E).nox _ _).nox, ?_⟩
  intro am ham
  obtain ⟨cells, hc64, hev⟩ := folded_ev ns ms0
  have sa := same_new ham (.dK [])
  refine tE_use (en := [some (.list (ns.map .int)), none, none]) (d := .list (cells.map .int)) ⟨Dq.mono sa hv, trivial⟩ (v_call (v_aC (v_var 0 rfl) v_aN) hev) fun v1 H1 s1 q1 => ?_
  obtain ⟨cA, xs, rfl, hcA, hxs⟩ := Dq.lstE (show Dq K H1 v1 (.list (cells.map .int)) from q1)
  obtain rfl := DqAll.ints hxs
  refine ⟨Nat.zero_le _, fun l hl => ?_⟩
  have hamo : H1 am = some (.dK []) := s1 _ _ upd_same
  have nal : am ≠ l := ne_of_none hamo hl
  refine ⟨by rw [upd_ne nal]; exact hamo, [(.inr "cells", .ref cA), (.inr "great", .ref l), (.inr "spot", .int 0)], rfl, (by show 3 ≤ 15; decide), ?_⟩
  have s2 : Same H1 (upd H1 l (.lst [])) := same_new hl _
  -- the dict as it stands
  have n1 : ¬ (("cells" : Str) = "great") := s_cg
  have hmk : mergeK [] [((.inr "cells" : Key), V.ref cA), (.inr "great", .ref l), (.inr "spot", .int 0)] = [(.inr "cells", .ref cA), (.inr "great", .ref l), (.inr "spot", .int 0)] := by
    simp [mergeK, putK, s_cg, s_cs, s_gs]
  rw [hmk]
  generalize hH2 : upd (upd H1 l (.lst [])) am (.dK [(.inr "cells", .ref cA), (.inr "great", .ref l), (.inr "spot", .int 0)]) = H2
  have nc : cA ≠ am := fun e => by
    rw [e] at hcA
    rcases hcA with q | ⟨x, q⟩
    · rw [hamo] at q
      cases q
    · rw [hamo] at q
      cases q
  have ncl : cA ≠ l := fun e => by
    rw [e] at hcA
    rcases hcA with q | ⟨x, q⟩
    · rw [hl] at q
      cases q
    · rw [hl] at q
      cases q
  have sH2 : ∀ b o, H b = some o → H2 b = some o := fun b o q => by
    have nb : b ≠ am := ne_of_none q ham
    rw [← hH2, upd_ne nb]
    exact s2 _ _ (s1 _ _ (sa _ _ q))
  have a2 : H2 am = some (.dK [(.inr "cells", .ref cA), (.inr "great", .ref l), (.inr "spot", .int 0)]) := by rw [← hH2]; exact upd_same
  have c2 : Rd H2 cA (.lst (cells.map V.int)) := by
    rw [← hH2]
    exact rd_upd (same_rd s2 hcA) nc
  -- the great numbers
  have ev2 : Ev (lcF (iL seqL (eVar 0)) (gNm 2) tYs (eIf (tV asB (e2 geD (eVar 2) (e2 powD (eC (.int 10)) (eC (.int 18))))) (eVar 2) (eC (.int 0))) [2] [some (.list (ns.map .int)), none, none]) ms0 (.list ((ns.map fun i => if 10 ^ 18 ≤ i then i else 0).map .int)) ms0 := by
    have h := v_lcM (f := lcStep (gNm 2) tYs (eIf (tV asB (e2 geD (eVar 2) (e2 powD (eC (.int 10)) (eC (.int 18))))) (eVar 2) (eC (.int 0))) (wipeE [some (.list (ns.map PyData.int)), none, none] [2])) (onI fun i => if (10 : Int) ^ 18 ≤ i then i else 0) (m := ms0) (ds := ns.map .int) fun d hd => by
      obtain ⟨i, _, rfl⟩ := List.mem_map.mp hd
      show Ev _ _ (some (PyData.int (if (10 : Int) ^ 18 ≤ i then i else 0))) _
      by_cases hi : (10 : Int) ^ 18 ≤ i
      · rw [if_pos hi]
        exact v_stepT (v_gNm 2 _ _ _) (v_tYs _ _) (v_ifT (v_tV (v_e2 (v_var 2 rfl) (v_e2 (v_c _) (v_c _) rfl) rfl) (by show some (decide ((10 : Int) ^ 18 ≤ i)) = some true; rw [decide_eq_true hi])) (v_var 2 rfl))
      · rw [if_neg hi]
        exact v_stepT (v_gNm 2 _ _ _) (v_tYs _ _) (v_ifF (v_tV (v_e2 (v_var 2 rfl) (v_e2 (v_c _) (v_c _) rfl) rfl) (by show some (decide ((10 : Int) ^ 18 ≤ i)) = some false; rw [decide_eq_false hi])) (v_c _))
    rw [map_onI] at h
    refine v_lc (v_iL (v_var 0 rfl) rfl) h ?_
    rw [List.length_map, List.length_map]
    exact hln
  simp only [gName, tSeq, sDPut]
  refine tEO_use (en := [some (.list (ns.map .int)), none, none]) (d := .list ((ns.map fun i => if (10 : Int) ^ 18 ≤ i then i else 0).map .int)) ?hr ev2 ?kk
  case hr => exact ⟨Dq.mono (H := H) (fun b o q => sH2 b o q) hv, trivial⟩
  intro gA o3 H3 s3 n3 g3 q3
  cases q3 with
  | lst _ vs q3 =>
    obtain rfl := DqAll.ints q3
    refine ⟨_, rfl, am, _, rfl, DPut.k (k := .inr "great") (s3 _ _ a2) (by show 3 < sizeLine; rw [sizeLine_eq]; decide), ?_⟩
    have hput : putK [((.inr "cells" : Key), V.ref cA), (.inr "great", .ref l), (.inr "spot", .int 0)] (.inr "great") (.ref gA) = [(.inr "cells", .ref cA), (.inr "great", .ref gA), (.inr "spot", .int 0)] := by
      have h : ([((.inr "cells" : Key), V.ref cA), (.inr "great", .ref l), (.inr "spot", .int 0)].any fun kv => decide (kv.1 = .inr "great")) = true := by simp
      have n2 : ¬ (("spot" : Str) = "great") := fun q => s_gs q.symm
      unfold putK
      rw [if_pos h]
      simp [s_cg, n2]
    rw [hput]
    have ngam : gA ≠ am := fun e => by
      rw [e, a2] at n3
      cases n3
    have ncg : cA ≠ gA := fun e => by
      rw [e] at c2
      rcases c2 with q | ⟨x, q⟩
      · rw [n3] at q
        cases q
      · rw [n3] at q
        cases q
    refine ⟨_, rfl, hQ ⟨am, cA, gA, ncg⟩ _ cells (ns.map fun i => if (10 : Int) ^ 18 ≤ i then i else 0) (fun b o q => ?_) ham (hgA0 n3 sH2) hc64 (DrawOk.of upd_same (rd_upd (same_rd s3 c2) nc) (by rw [upd_ne ngam]; exact g3))⟩
    rw [upd_ne (ne_of_none q ham)]
    exact s3 _ _ (sH2 _ _ q)
end
end K15
namespace K15
open PySem L2 VL
set_option maxHeartbeats 0
theorem nd_law : N_law.Nodup := by decide +kernel
theorem sc_law : FnScope N_law ["_law_script"] (defScope s_law) := ⟨rfl, rfl, rfl, nd_law, rfl, by decide +kernel, by decide +kernel⟩
theorem b_law {P : Program} {w : World} {K : PySem.W.Frag} {mg : Str → Option Value} {base : Heap} {f : Addr} {f__law_of : Addr} {d__law_of : FuncData} {p__law_of : List Str} {f__law_some_lot : Addr} {d__law_some_lot : FuncData} {p__law_some_lot : List Str} {f__law_right : Addr} {d__law_right : FuncData} {p__law_right : List Str} {f__law_bad_lot : Addr} {d__law_bad_lot : FuncData} {p__law_bad_lot : List Str} {f__law_draw : Addr} {d__law_draw : FuncData} {p__law_draw : List Str} {f__law_asked : Addr} {d__law_asked : FuncData} {p__law_asked : List Str} {f__law_like : Addr} {d__law_like : FuncData} {p__law_like : List Str} {f__law_twice_bad : Addr} {d__law_twice_bad : FuncData} {p__law_twice_bad : List Str} {f_turned : Addr} {d_turned : FuncData} {p_turned : List Str} {f_closed : Addr} {d_closed : FuncData} {p_closed : List Str} {f_is_closed : Addr} {d_is_closed : FuncData} {p_is_closed : List Str} (T : Tx mg) (C__law_of : FcM P w K mg base "_law_of" 4 f__law_of d__law_of p__law_of [.dat] .dat fn__law_of) (C__law_some_lot : FcM P w K mg base "_law_some_lot" 5 f__law_some_lot d__law_some_lot p__law_some_lot [.dat] .nd fn__law_some_lot) (C__law_right : FcM P w K mg base "_law_right" 8 f__law_right d__law_right p__law_right [.dat, .dat] .dat fn__law_right) (C__law_bad_lot : FcM P w K mg base "_law_bad_lot" 5 f__law_bad_lot d__law_bad_lot p__law_bad_lot [.nd, .dat] .dat fn__law_bad_lot) (C__law_draw : FcM P w K mg base "_law_draw" 3 f__law_draw d__law_draw p__law_draw [.dat] .dat fn__law_draw) (C__law_asked : Fc P w K mg base "_law_asked" 8 f__law_asked d__law_asked p__law_asked [.dat, .dat, .dat] .dat fn__law_asked) (C__law_like : Fc P w K mg base "_law_like" 1 f__law_like d__law_like p__law_like [.dat, .dat] .dat fn__law_like) (C__law_twice_bad : FcM P w K mg base "_law_twice_bad" 5 f__law_twice_bad d__law_twice_bad p__law_twice_bad [.dat, .dat] .dat fn__law_twice_bad) (C_turned : FcX P w K mg base "turned" 7 f_turned d_turned p_turned [.dat, .dat] .dat fn_turned) (C_closed : FcX P w K mg base "closed" 7 f_closed d_closed p_closed [.dat, .dat] .dat fn_closed) (C_is_closed : FcX P w K mg base "is_closed" 7 f_is_closed d_is_closed p_is_closed [.dat, .dat] .dat fn_is_closed) (W : Wd) (cdv : Value) (A : Around) (outer : List Env) (s : Shared) (H : Hp) (E : XK)
    (hgd : (A.deeper (PyProof.Rows.envOfC "law" (defScope s_law) s.heap.objs.size f cdv)).guards = some []) (hr : Room 8 (A.deeper (PyProof.Rows.envOfC "law" (defScope s_law) s.heap.objs.size f cdv))) :
    FSs (cxOf CX0 P w K mg base N_law "law" (defScope s_law) f cdv A outer s H E).nox ⟨some W, [1], dk_law, .dat, EN⟩ [] [] ((defBody s_law).drop 1) S_law [] := by
  have nd := nd_law
  have hc : (cxOf CX0 P w K mg base N_law "law" (defScope s_law) f cdv A outer s H E).nox.calm = true := rfl
  have hu : HU (cxOf CX0 P w K mg base N_law "law" (defScope s_law) f cdv A outer s H E).nox := .of hr
  have hu1 := hu_1 hu
  have hu64 := hu_64 hu
  have hu65 := hu_65 hu
  have hW : (⟨some W, [1], dk_law, .dat, EN⟩ : Ct).W = some W := rfl
  have hpo : PassesOwn (model (cxOf CX0 P w K mg base N_law "law" (defScope s_law) f cdv A outer s H E).nox.prog (cxOf CX0 P w K mg base N_law "law" (defScope s_law) f cdv A outer s H E).nox.w) (cxOf CX0 P w K mg base N_law "law" (defScope s_law) f cdv A outer s H E).nox.A (cxOf CX0 P w K mg base N_law "law" (defScope s_law) f cdv A outer s H E).nox.env (cxOf CX0 P w K mg base N_law "law" (defScope s_law) f cdv A outer s H E).nox.xe := PassesOwn.never
  exact (fss_cons (fs_for hpo hc (fi_rng1 T.b_range (fa_cons (fe_binS ov_add fe_int (fe_callB cv_min2 T.b_min (fab_cons (fb (fe_callB cv_len T.b_len (fab_cons (fb (fr_var .dat 0)) fab_nil))) (fab_cons (fb fe_int) fab_nil)))) fa_nil)) (fg_nm 2 nd) (fss_cons (fs_set 4 (fr_m 1 hW C__law_of hgd (hr.mono (by decide)) (fa_cons (fe_of (fo_lst (n := 10) (fa_cons fe_int (fa_cons fe_int (fa_cons fe_int (fa_cons fe_int (fa_cons fe_int (fa_cons fe_int (fa_cons fe_int (fa_cons fe_int (fa_cons fe_int (fa_cons fe_int fa_nil)))))))))))) fa_nil)) nd) (fss_cons (fs_set 5 (fr_m 1 hW C__law_some_lot hgd (hr.mono (by decide)) (fa_cons (fr_var .dat 4) fa_nil)) nd) (fss_cons (fs_if (Un := []) (ft_not (ft_val (fr_m 1 hW C__law_right hgd (hr.mono (by decide)) (fa_cons (fe_w (fr_var .nd 5)) (fa_cons (fr_var .dat 4) fa_nil))))) (fss_one (fs_ret fe_bl)) fss_nil) (fss_cons (fs_asg (fr_m 1 hW C__law_bad_lot hgd (hr.mono (by decide)) (fa_cons (fr_var .nd 5) (fa_cons (fr_var .dat 4) fa_nil))) (fg_tup (n := 2) hc (fg_cons (fg_nm 6 nd) (fg_cons (fg_nm 7 nd) fg_nil)))) (fss_cons (fs_par 8 9 hc nd (fa_cons (fr_m 1 hW C__law_draw hgd (hr.mono (by decide)) (fa_cons fe_int fa_nil)) (fa_cons (fr_m 1 hW C__law_of hgd (hr.mono (by decide)) (fa_cons (fe_of (fo_lst (n := 8) (fa_cons fe_int (fa_cons fe_int (fa_cons (fe_neg fe_int) (fa_cons fe_bl (fa_cons fe_non (fa_cons fe_str (fa_cons (fe_of (fo_lst (n := 0) fa_nil)) (fa_cons (fe_bin ov_pow (fb fe_int) (fb fe_int)) fa_nil)))))))))) fa_nil)) fa_nil))) (fss_cons (fs_set 3 (fe_of (fo_lst (n := 3) (fa_cons (fr_f C__law_asked hgd (hr.mono (by decide)) (fa_cons (fr_var .dat 8) (fa_cons (fr_var .dat 6) (fa_cons (fr_var .dat 4) fa_nil)))) (fa_cons (fr_f C__law_asked hgd (hr.mono (by decide)) (fa_cons (fr_var .dat 8) (fa_cons (fr_var .dat 6) (fa_cons (fr_var .dat 9) fa_nil)))) (fa_cons (fr_f C__law_asked hgd (hr.mono (by decide)) (fa_cons (fr_var .dat 8) (fa_cons (fe_w (fr_var .nd 5)) (fa_cons (fr_var .dat 9) fa_nil)))) fa_nil))))) nd) (fss_cons (fs_if (Un := []) (ft_not (ft_val (fr_f C__law_like hgd (hr.mono (by decide)) (fa_cons (fr_var .dat 3) (fa_cons (fe_of (fo_lst (n := 3) (fa_cons (fe_tup (n := 2) (fa_cons fe_str (fa_cons (fr_var .dat 7) fa_nil))) (fa_cons (fe_tup (n := 2) (fa_cons fe_str (fa_cons (fr_var .dat 9) fa_nil))) (fa_cons (fe_tup (n := 2) (fa_cons fe_str (fa_cons (fr_var .dat 9) fa_nil))) fa_nil))))) fa_nil))))) (fss_one (fs_ret fe_bl)) fss_nil) (fss_cons (fs_asg (fr_m 1 hW C__law_twice_bad hgd (hr.mono (by decide)) (fa_cons (fe_w (fr_var .nd 5)) (fa_cons (fr_var .dat 4) fa_nil))) (fg_tup (n := 2) hc (fg_cons (fg_nm 10 nd) (fg_cons (fg_nm 7 nd) fg_nil)))) (fss_one (fs_if (Un := []) (ft_not (ft_val (fr_f C__law_like hgd (hr.mono (by decide)) (fa_cons (fe_of (fo_lst (n := 2) (fa_cons (fr_f C__law_asked hgd (hr.mono (by decide)) (fa_cons fe_int (fa_cons (fe_w (fr_var .nd 5)) (fa_cons (fr_var .dat 4) fa_nil)))) (fa_cons (fr_f C__law_asked hgd (hr.mono (by decide)) (fa_cons (fr_var .dat 8) (fa_cons (fr_var .dat 10) (fa_cons (fr_var .dat 4) fa_nil)))) fa_nil)))) (fa_cons (fe_of (fo_lst (n := 2) (fa_cons (fe_tup (n := 2) (fa_cons fe_str (fa_cons (fe_w (fr_var .nd 5)) fa_nil))) (fa_cons (fe_tup (n := 2) (fa_cons fe_str (fa_cons (fr_var .dat 7) fa_nil))) fa_nil)))) fa_nil))))) (fss_one (fs_ret fe_bl)) fss_nil))))))))))) (fss_cons (fs_set 3 (fe_of (fo_lst (n := 5) (fa_cons (fr_fN C_turned hgd (hr.mono (by decide)) (fa_cons (fe_tup (n := 0) fa_nil) (fa_cons fe_int fa_nil))) (fa_cons (fr_fN C_closed hgd (hr.mono (by decide)) (fa_cons (fe_tup (n := 0) fa_nil) (fa_cons fe_int fa_nil))) (fa_cons (fr_fN C_is_closed hgd (hr.mono (by decide)) (fa_cons (fe_tup (n := 0) fa_nil) (fa_cons fe_int fa_nil))) (fa_cons (fr_fN C_closed hgd (hr.mono (by decide)) (fa_cons (fe_tup (n := 0) fa_nil) (fa_cons fe_int fa_nil))) (fa_cons (fr_fN C_turned hgd (hr.mono (by decide)) (fa_cons (fe_tup (n := 1) (fa_cons (fe_tup (n := 3) (fa_cons fe_int (fa_cons fe_int (fa_cons fe_int fa_nil)))) fa_nil)) (fa_cons fe_int fa_nil))) fa_nil))))))) nd) (fss_cons (fs_if (Un := []) (ft_not (ft_val (fr_f C__law_like hgd (hr.mono (by decide)) (fa_cons (fr_var .dat 3) (fa_cons (fe_of (fo_lst (n := 5) (fa_cons (fe_tup (n := 1) (fa_cons (fe_tup (n := 1) (fa_cons fe_int fa_nil)) fa_nil)) (fa_cons (fe_tup (n := 1) (fa_cons (fe_tup (n := 1) (fa_cons fe_int fa_nil)) fa_nil)) (fa_cons fe_bl (fa_cons (fe_tup (n := 0) fa_nil) (fa_cons (fe_tup (n := 2) (fa_cons (fe_tup (n := 3) (fa_cons fe_int (fa_cons fe_int (fa_cons fe_int fa_nil)))) (fa_cons (fe_tup (n := 3) (fa_cons fe_int (fa_cons fe_int (fa_cons fe_int fa_nil)))) fa_nil))) fa_nil))))))) fa_nil))))) (fss_one (fs_ret fe_bl)) fss_nil) (fss_one (fs_ret (fr_f C__law_like hgd (hr.mono (by decide)) (fa_cons (fr_fN C_closed hgd (hr.mono (by decide)) (fa_cons (fe_tup (n := 2) (fa_cons (fe_tup (n := 3) (fa_cons fe_int (fa_cons fe_int (fa_cons fe_int fa_nil)))) (fa_cons (fe_tup (n := 3) (fa_cons fe_int (fa_cons fe_int (fa_cons fe_int fa_nil)))) fa_nil))) (fa_cons fe_int fa_nil))) (fa_cons (fe_tup (n := 2) (fa_cons (fe_tup (n := 3) (fa_cons fe_int (fa_cons fe_int (fa_cons fe_int fa_nil)))) (fa_cons (fe_tup (n := 3) (fa_cons fe_int (fa_cons fe_int (fa_cons fe_int fa_nil)))) fa_nil))) fa_nil))))))))
end K15
namespace K15
open PySem L2 VL

/-- the law's slots behind its first statement -/
def enLaw (ns : List Int) : SE := some (.list (ns.map .int)) :: List.replicate 10 none
/-- the plain law: whatever the machine, the answer is True -/
def LawEv : Prop := ∀ (ns cells great : List Int), ns.length ≤ 63 → cells.length = 64 → ∃ m, Ev (S_law (enLaw ns)) (cells, great, 0) (.rt (.bool true)) m
theorem ok_law (hev : LawEv) {P : Program} {w : World} {K : PySem.W.Frag} {mg : Str → Option Value} {base : Heap} {f f_b : Addr} {fd d_b : FuncData} {f__law_of : Addr} {d__law_of : FuncData} {p__law_of : List Str} {f__law_some_lot : Addr} {d__law_some_lot : FuncData} {p__law_some_lot : List Str} {f__law_right : Addr} {d__law_right : FuncData} {p__law_right : List Str} {f__law_bad_lot : Addr} {d__law_bad_lot : FuncData} {p__law_bad_lot : List Str} {f__law_draw : Addr} {d__law_draw : FuncData} {p__law_draw : List Str} {f__law_asked : Addr} {d__law_asked : FuncData} {p__law_asked : List Str} {f__law_like : Addr} {d__law_like : FuncData} {p__law_like : List Str} {f__law_twice_bad : Addr} {d__law_twice_bad : FuncData} {p__law_twice_bad : List Str} {f_turned : Addr} {d_turned : FuncData} {p_turned : List Str} {f_closed : Addr} {d_closed : FuncData} {p_closed : List Str} {f_is_closed : Addr} {d_is_closed : FuncData} {p_is_closed : List Str} (T : Tx mg) (F : Fun K "law" "law" s_law f fd) (B : FnV P w K mg base CX0 2 f_b d_b ["_law_script"] (spB K)) (mb : mg "_law_begun" = some (.ref f_b)) (kb : PySem.W.keepIn K (.ref f_b) = true) (bb : Binds K d_b ["_law_script"] []) (C__law_of : FcM P w K mg base "_law_of" 4 f__law_of d__law_of p__law_of [.dat] .dat fn__law_of) (C__law_some_lot : FcM P w K mg base "_law_some_lot" 5 f__law_some_lot d__law_some_lot p__law_some_lot [.dat] .nd fn__law_some_lot) (C__law_right : FcM P w K mg base "_law_right" 8 f__law_right d__law_right p__law_right [.dat, .dat] .dat fn__law_right) (C__law_bad_lot : FcM P w K mg base "_law_bad_lot" 5 f__law_bad_lot d__law_bad_lot p__law_bad_lot [.nd, .dat] .dat fn__law_bad_lot) (C__law_draw : FcM P w K mg base "_law_draw" 3 f__law_draw d__law_draw p__law_draw [.dat] .dat fn__law_draw) (C__law_asked : Fc P w K mg base "_law_asked" 8 f__law_asked d__law_asked p__law_asked [.dat, .dat, .dat] .dat fn__law_asked) (C__law_like : Fc P w K mg base "_law_like" 1 f__law_like d__law_like p__law_like [.dat, .dat] .dat fn__law_like) (C__law_twice_bad : FcM P w K mg base "_law_twice_bad" 5 f__law_twice_bad d__law_twice_bad p__law_twice_bad [.dat, .dat] .dat fn__law_twice_bad) (C_turned : FcX P w K mg base "turned" 7 f_turned d_turned p_turned [.dat, .dat] .dat fn_turned) (C_closed : FcX P w K mg base "closed" 7 f_closed d_closed p_closed [.dat, .dat] .dat fn_closed) (C_is_closed : FcX P w K mg base "is_closed" 7 f_is_closed d_is_closed p_is_closed [.dat, .dat] .dat fn_is_closed) :
    FnV P w K mg base CX0 9 f fd ["_law_script"] (spLaw K 63) := by
  refine fnV_of F sc_law (fun vs H Q E ⟨a, ns, e, _⟩ => by rw [e]; rfl) fun cdv A outer s H vs Q E hga hr hsp => ?_
  obtain ⟨a, ns, rfl, hA, hln, hQ⟩ := hsp
  have hgd : (cxOf CX0 P w K mg base N_law "law" (defScope s_law) f cdv A outer s H E).nox.A.guards = some [] := hga
  have nd := nd_law
  have pt2 : PSs (cxOf CX0 P w K mg base N_law "law" (defScope s_law) f cdv A outer s H E).nox ((defBody s_law).drop 1) (fun D σ H1 => ∃ t, PSs (cxOf CX0 P w K mg base N_law "law" (defScope s_law) f cdv A outer s H E).nox ((defBody s_law).drop 1) t ∧ t D σ H1) :=
    ⟨fun pins s σ H D I ⟨t, pt, h⟩ => pt.run pins s σ H D I h⟩
  refine ⟨_, (pss_cons (ps_set (i := 1) nd rfl (by first | exact Or.inl rfl | exact Or.inr rfl) (pe_V B hgd (hr.mono (by decide)) rfl mb kb bb pass0 (pa_cons (pv 0) pa_nil))) pt2
    : PSs (cxOf CX0 P w K mg base N_law "law" (defScope s_law) f cdv A outer s H E).nox (defBody s_law) _).nox, ?_⟩
  refine ⟨_, rfl, ns, _, rfl, Dq.lst hA (DqAll.ofInts ns), Nat.le_trans hln (by decide), fun W H1 cells great s1 am0 gA0 hc64 hdr => ?_⟩
  obtain ⟨t, pt, rt⟩ := b_law (P := P) (w := w) (K := K) (mg := mg) (base := base) (f := f) T C__law_of C__law_some_lot C__law_right C__law_bad_lot C__law_draw C__law_asked C__law_like C__law_twice_bad C_turned C_closed C_is_closed W cdv A outer s H E hga hr
  refine ⟨t, pt, ?_⟩
  obtain ⟨h1, h2, h3⟩ := hdr W rfl
  have hz : a ∉ [W.am, W.cA, W.gA] := by
    have hne : H a ≠ none := fun q => by
      rcases hA with z | ⟨x, z⟩
      · rw [z] at q; cases q
      · rw [z] at q; cases q
    intro hz
    rcases List.mem_cons.mp hz with e | hz
    · exact hne (e ▸ am0)
    · rcases List.mem_cons.mp hz with e | hz
      · have hA1 : Rd H1 a (.lst (ns.map V.int)) := same_rd s1 hA
        rw [e] at hA1
        have : ns.map V.int = cells.map V.int := by
          rcases hA1 with z | ⟨x, z⟩
          · rcases h2 with y | ⟨u, y⟩
            · exact HO.lst.inj (Option.some.inj (z.symm.trans y))
            · rw [z] at y; cases y
          · rcases h2 with y | ⟨u, y⟩
            · rw [z] at y; cases y
            · have q := z.symm.trans y
              injection q with q
              injection q with q1 q2
              injection q2
        have := congrArg List.length this
        rw [List.length_map, List.length_map] at this
        omega
      · exact hne ((List.mem_singleton.mp hz) ▸ gA0)
  have E1 : EnvOk K (some W) [1] dk_law [W.am, W.cA, W.gA] H1 [] [] (enLaw ns) (some (V.ref a) :: some (V.ref W.am) :: List.replicate 9 none) H1 (cells, great, 0) := by
    have n1 : H1 W.am ≠ none := by rw [h1]; exact fun x => nomatch x
    have n2 : H1 W.cA ≠ none := by
      rcases h2 with q | ⟨x, q⟩
      · rw [q]; exact fun x => nomatch x
      · rw [q]; exact fun x => nomatch x
    have n3 : H1 W.gA ≠ none := by rw [h3]; exact fun x => nomatch x
    refine ⟨rfl, fun i => Iff.rfl, List.nodup_nil, fun w q => ?_, fun z hz => ?_, fun w q => ?_, hdr, SameW.refl _ _, fun w q j hj => ?_, List.nodup_nil, (fun p hp => nomatch hp), (fun p hp => nomatch hp), fun i d h _ => ?_⟩
    · cases q
      exact ⟨List.mem_cons_self, List.mem_cons_of_mem _ List.mem_cons_self, List.mem_cons_of_mem _ (List.mem_cons_of_mem _ List.mem_cons_self)⟩
    · rcases List.mem_cons.mp hz with e | hz
      · rw [e]; exact n1
      · rcases List.mem_cons.mp hz with e | hz
        · rw [e]; exact n2
        · rw [List.mem_singleton.mp hz]; exact n3
    · cases q
      exact ⟨n1, n2, n3⟩
    · cases q
      rw [List.mem_singleton.mp hj]
      rfl
    · cases i with
      | zero =>
        cases h
        refine ⟨_, rfl, ?_⟩
        show Dq K _ (.ref a) (.list (ns.map .int))
        refine .lst ?_ (DqAll.ofInts ns)
        have hA1 : Rd H1 a (.lst (ns.map V.int)) := same_rd s1 hA
        have e : hide (ZO [W.am, W.cA, W.gA] []) H1 a = H1 a := hide_ne (by simpa [ZO] using hz)
        rcases hA1 with z | ⟨x, z⟩
        · exact .inl (by rw [e]; exact z)
        · exact .inr ⟨x, by rw [e]; exact z⟩
      | succ i =>
        have h : (List.replicate 10 (none : Option D))[i]? = some (some d) := h
        rw [List.getElem?_replicate] at h
        split at h <;> cases h
  obtain ⟨m, hm⟩ := hev ns cells great hln hc64
  have hm : S_law (enLaw ns) (cells, great, 0) = Out.ok (Ctl.rt (.bool true)) m := hm
  refine rt _ _ _ _ _ _ _ _ E1 ?_
  rw [hm]
  intro v H2 s2 _ q2
  have q2 : Dq K _ v (.bool true) := q2
  cases q2
  exact hQ H2
end K15
namespace K15
open PySem L2 VL K01
def ints? : List D → Option (List Int)
  | [] => some []
  | .int i :: r => (ints? r).map (i :: ·)
  | _ => none
theorem ints?_some : ∀ {ds : List D} {bs : List Int}, ints? ds = some bs → ds = bs.map .int
  | [], _, h => by cases h; rfl
  | d :: ds, bs, h => by
    cases d with
    | int i =>
      obtain ⟨r, hr, rfl⟩ := Option.map_eq_some_iff.mp (show (ints? ds).map (i :: ·) = some bs from h)
      rw [ints?_some hr]
      rfl
    | _ => cases h
theorem ints?_map : ∀ (bs : List Int), ints? (bs.map .int) = some bs
  | [] => rfl
  | b :: bs => by
    show (ints? (bs.map .int)).map (b :: ·) = _
    rw [ints?_map bs]
    rfl
theorem take_snoc {α : Type} {xs : List α} {i : Nat} {x : α} (h : xs[i]? = some x) : xs.take (i + 1) = xs.take i ++ [x] := by
  rw [List.take_add_one, h]
  rfl
/-- the machine, drawn from at most b times -/
def Mk (m : MS) (b : Nat) : Prop := m.1.length = 64 ∧ 0 ≤ m.2.2 ∧ m.2.2 ≤ (b : Int)
theorem Mk.mono {m : MS} {b c : Nat} (h : Mk m b) (q : b ≤ c) : Mk m c := ⟨h.1, h.2.1, by have := h.2.2; omega⟩
theorem draw_ev {m : MS} {b : Nat} {L : Int} (h : Mk m b) (hb : b < 1000000) (h0 : 0 < L) (h1 : L < 1073741824) : ∃ v m', Ev (fn__law_draw [.int L]) m (.int v) m' ∧ 0 ≤ v ∧ v < L ∧ Mk m' (b + 1) := by
  obtain ⟨cells, great, n⟩ := m
  obtain ⟨hc, hn0, hn1⟩ := h
  have hc : cells.length = 64 := hc
  have hn0 : 0 ≤ n := hn0
  have hn1 : n ≤ (b : Int) := hn1
  have cond : 0 < L ∧ L < 1073741824 ∧ 0 ≤ n ∧ n < 1000000000 ∧ cells.length = 64 := ⟨h0, h1, hn0, by omega, hc⟩
  have hi : (n % 64).toNat < cells.length := by omega
  have hbase : drawBase L cells n = some (mixI (mixI (cells[(n % 64).toNat] + 31 * (n / 64)) n) (n + 7) % L) := by
    unfold drawBase
    rw [List.getElem?_eq_getElem hi]
    rfl
  have e : ∀ x : M D, x = drawM L → x (cells, great, n) = drawM L (cells, great, n) := fun x q => by rw [q]
  have hM : drawM L (cells, great, n) = (match great[(n % (great.length : Int)).toNat]? with
    | some g => if 0 < g then Out.ok (PyData.int (g % L)) (cells, great.set (n % (great.length : Int)).toNat (g / L), n + 1)
      else match drawBase L cells n with
        | some v => .ok (.int v) (cells, great, n + 1)
        | none => .bad
    | none => if great = [] then match drawBase L cells n with
        | some v => .ok (.int v) (cells, great, n + 1)
        | none => .bad
      else .bad) := by
    unfold drawM
    rw [if_pos cond]
    all_goals rfl
  rw [hbase] at hM
  cases q : great[(n % (great.length : Int)).toNat]? with
  | some g =>
    rw [q] at hM
    by_cases hg : 0 < g
    · have hM : drawM L (cells, great, n) = (if 0 < g then Out.ok (PyData.int (g % L)) (cells, great.set (n % (great.length : Int)).toNat (g / L), n + 1) else _) := hM
      rw [if_pos hg] at hM
      exact ⟨_, _, hM, Int.emod_nonneg _ (by omega), Int.emod_lt_of_pos _ h0, hc, by show 0 ≤ n + 1; omega, by show n + 1 ≤ _; omega⟩
    · have hM : drawM L (cells, great, n) = (if 0 < g then _ else Out.ok (PyData.int (mixI (mixI (cells[(n % 64).toNat] + 31 * (n / 64)) n) (n + 7) % L)) (cells, great, n + 1)) := hM
      rw [if_neg hg] at hM
      exact ⟨_, _, hM, Int.emod_nonneg _ (by omega), Int.emod_lt_of_pos _ h0, hc, by show 0 ≤ n + 1; omega, by show n + 1 ≤ _; omega⟩
  | none =>
    rw [q] at hM
    have hge : great = [] := by
      by_cases hl : great.length = 0
      · exact List.eq_nil_of_length_eq_zero hl
      · have h2 : 0 < (great.length : Int) := by omega
        have h3 := Int.emod_lt_of_pos n h2
        have h4 := Int.emod_nonneg n (show (great.length : Int) ≠ 0 by omega)
        rw [List.getElem?_eq_getElem (by omega)] at q
        cases q
    have hM : drawM L (cells, great, n) = (if great = [] then Out.ok (PyData.int (mixI (mixI (cells[(n % 64).toNat] + 31 * (n / 64)) n) (n + 7) % L)) (cells, great, n + 1) else _) := hM
    rw [if_pos hge] at hM
    exact ⟨_, _, hM, Int.emod_nonneg _ (by omega), Int.emod_lt_of_pos _ h0, hc, by show 0 ≤ n + 1; omega, by show n + 1 ≤ _; omega⟩
/-- numbered labels as data -/
def numD {κ : Type} [DecidableEq κ] (xs : List κ) : D := .tuple (natD (num xs))
theorem law_numbered_ev {xs : List Key} {m : MS} (h : xs.length ≤ 900) : Ev (fn__law_numbered [.list (xs.map keyD)]) m (numD xs) m := by
  obtain ⟨ks', x', hl⟩ := num_loop (kd := keyD) (Gt := gNm 1) (B := sq (sIf (eDin true hasK 2 (eVar 1)) (sDput putKq 2 (eVar 1) (eDlen 2)) sNx) (sMeth 3 appD (eDgK 2 (eVar 1))))
    (fun ks found x => [some (.list (xs.map keyD)), x, some (.dict (seenKV keyD ks)), some (.list (natD found))]) (m := m)
    (fun ks found x k h1 h2 => ⟨_, some (keyD k), v_gNm 1 _ _ m, num_stepG asK_keyD (fun _ _ => rfl) (fun _ _ _ => rfl) dgK_ev rfl rfl rfl (by decide) (by decide) h1 h2⟩) xs [] [] none (by simp; omega) (by simp; omega)
  exact v_runR (v_sq (v_parO 2 3 (v_c _) (v_eL v_aN rfl) ⟨by show 2 < 4; decide, by show 3 < 4; decide⟩) (v_sq (v_for (v_iL (v_var 0 rfl) rfl) hl) (v_ret (v_eL (v_aC (v_var 3 rfl) v_aN) rfl))))
theorem like_ev {n : Nat} {d : D} {m : MS} (hn : n < 60) (h : plD n d = true) (hb : d.bulk ≤ 1000000) : Ev (fn__law_like [d, d]) m (.bool true) m :=
  v_runR (v_ret (v_e2 (v_eL (v_aC (v_var 0 rfl) v_aN) (reprD_plain hn h hb)) (v_eL (v_aC (v_var 1 rfl) v_aN) (reprD_plain hn h hb)) (eqD_str (plD_ok n d h))))
/-- blocks told by first meeting, k of them met before -/
def rg : Nat → List Nat → Prop
  | _, [] => True
  | k, b :: bs => b ≤ k ∧ rg (max k (b + 1)) bs
/-- how many blocks -/
def topN (k : Nat) (p : List Nat) : Nat := p.foldl (fun k b => max k (b + 1)) k
structure IsP (p : List Nat) : Prop where
  l1 : 1 ≤ p.length
  l2 : p.length ≤ 60
  g : rg 0 p
theorem topN_ge : ∀ (p : List Nat) (k : Nat), k ≤ topN k p
  | [], k => Nat.le_refl _
  | b :: p, k => Nat.le_trans (Nat.le_max_left k (b + 1)) (topN_ge p _)
theorem topN_mem : ∀ (p : List Nat) (k b : Nat), b ∈ p → b < topN k p
  | x :: p, k, b, h => by
    rcases List.mem_cons.mp h with rfl | h
    · exact Nat.lt_of_lt_of_le (Nat.lt_succ_self b) (Nat.le_trans (Nat.le_max_right k (b + 1)) (topN_ge p _))
    · exact topN_mem p _ b h
theorem topN_le : ∀ (p : List Nat) (k : Nat), rg k p → topN k p ≤ k + p.length
  | [], k, _ => Nat.le_refl _
  | b :: p, k, h => by
    have h1 := topN_le p (max k (b + 1)) h.2
    have h2 := h.1
    show topN (max k (b + 1)) p ≤ _
    rw [List.length_cons]
    omega
theorem rg_numGo {κ : Type} [DecidableEq κ] : ∀ (xs ks : List κ), rg ks.length (numGo ks xs)
  | [], _ => trivial
  | x :: xs, ks => by
    have ih := rg_numGo xs (numStep ks x)
    show (numStep ks x).idxOf x ≤ ks.length ∧ rg (max ks.length ((numStep ks x).idxOf x + 1)) (numGo (numStep ks x) xs)
    by_cases h : x ∈ ks
    · have e : numStep ks x = ks := if_pos h
      have hl := List.idxOf_lt_length_of_mem h
      rw [e] at ih ⊢
      exact ⟨by omega, by rw [Nat.max_eq_left (by omega)]; exact ih⟩
    · have e : numStep ks x = ks ++ [x] := if_neg h
      rw [numStep_new h]
      refine ⟨Nat.le_refl _, ?_⟩
      rw [Nat.max_eq_right (by omega)]
      rw [e] at ih ⊢
      rw [List.length_append] at ih
      exact ih
theorem isP_num {κ : Type} [DecidableEq κ] {xs : List κ} (h1 : 1 ≤ xs.length) (h2 : xs.length ≤ 60) : IsP (num xs) :=
  ⟨by rw [num_len]; exact h1, by rw [num_len]; exact h2, rg_numGo xs []⟩
/-- a parting's own numbers are its numbering -/
theorem numGo_rg : ∀ (p : List Nat) (k : Nat), rg k p → numGo (List.range k) p = p
  | [], _, _ => rfl
  | b :: p, k, h => by
    have h1 := h.1
    have e : numStep (List.range k) b = List.range (max k (b + 1)) := by
      unfold numStep
      by_cases q : b < k
      · rw [if_pos (List.mem_range.mpr q), Nat.max_eq_left (by omega)]
      · have : b = k := by omega
        subst this
        rw [if_neg (fun t => q (List.mem_range.mp t)), Nat.max_eq_right (by omega), List.range_succ]
    show (numStep (List.range k) b).idxOf b :: numGo (numStep (List.range k) b) p = b :: p
    rw [e, numGo_rg p _ h.2]
    have hm : b ∈ List.range (max k (b + 1)) := List.mem_range.mpr (by omega)
    have hl := List.idxOf_lt_length_of_mem hm
    have := List.getElem_idxOf hl
    rw [List.getElem_range] at this
    rw [this]
theorem num_isP {p : List Nat} (h : rg 0 p) : num p = p := numGo_rg p 0 h
/-! ### the program's checks -/
theorem is_whole_ev {i : Int} {m : MS} : Ev (fn_is_whole [.int i]) m (.bool true) m := rfl
theorem is_within_ev {i lo hi : Int} {m : MS} (h1 : lo ≤ i) (h2 : i ≤ hi) : Ev (fn_is_within [.int i, .int lo, .int hi]) m (.bool true) m := by
  refine v_runR (v_ret (ev_bd (v_call (v_aC (v_var 0 rfl) v_aN) is_whole_ev) (ev_bd (ev_lft (a := true) m rfl) ?_)))
  exact v_eB (v_c3T (b := .int i) (v_var 1 rfl) (v_var 0 rfl) (by show some (PyData.bool (decide (lo ≤ i))) = _; rw [decide_eq_true h1]) (v_var 2 rfl) (by show some (PyData.bool (decide (i ≤ hi))) = _; rw [decide_eq_true h2]))
theorem natD_get {p : List Nat} {j : Nat} {d : D} (h : (natD p)[j]? = some d) : ∃ b, p[j]? = some b ∧ d = .int (b : Nat) := by
  obtain ⟨b, h1, h2⟩ := map_inv h
  exact ⟨b, h1, h2⟩
theorem alike_natD (p : List Nat) : alikeB (natD p) = true := by
  unfold alikeB
  rw [Bool.and_eq_true]
  have h : ∀ x ∈ natD p, ∃ b : Nat, x = .int (b : Nat) := fun x hx => by
    obtain ⟨b, _, e⟩ := List.mem_map.mp hx
    exact ⟨b, e.symm⟩
  refine ⟨List.all_eq_true.mpr fun x hx => List.all_eq_true.mpr fun y hy => ?_, List.all_eq_true.mpr fun x hx => ?_⟩
  · obtain ⟨b, rfl⟩ := h x hx
    obtain ⟨c, rfl⟩ := h y hy
    simp [PySem.W.alike]
  · obtain ⟨b, rfl⟩ := h x hx
    rfl
theorem plD_natD {n : Nat} {p : List Nat} (h : ∀ b ∈ p, b < 1000000) : (natD p).all (plD n) = true := List.all_eq_true.mpr fun x hx => by
  obtain ⟨b, hb, rfl⟩ := List.mem_map.mp hx
  have := h b hb
  cases n <;> exact decide_eq_true (show Int.natAbs ((b : Nat) : Int) < 1000000000000 by omega)
theorem IsP.small {p : List Nat} (hp : IsP p) : ∀ b ∈ p, b < 60 := fun b hb => by
  have h1 := topN_mem p 0 b hb
  have h2 := topN_le p 0 hp.g
  have := hp.l2
  omega
theorem fold_top : ∀ (q : List Nat) (b : Nat), (q.map fun (n : Nat) => (n : Int)).foldl max (b : Int) + 1 = ((topN (b + 1) q : Nat) : Int)
  | [], b => by simp [topN]
  | c :: q, b => by
    have ih := fold_top q (max b c)
    show (q.map fun (n : Nat) => (n : Int)).foldl max (max (b : Int) (c : Int)) + 1 = ((topN (max (b + 1) (c + 1)) q : Nat) : Int)
    rw [show max (b + 1) (c + 1) = max b c + 1 by omega, ← ih, show max ((b : Nat) : Int) (c : Int) = ((max b c : Nat) : Int) by omega]
theorem maxV_natD {p : List Nat} (h1 : 1 ≤ p.length) (h2 : ∀ b ∈ p, b < 1000000) : maxV (.tuple (natD p)) = some (.int ((topN 0 p : Nat) - 1)) := by
  cases p with
  | nil => cases h1
  | cons b q =>
    have hs : SeqAt.shaped (.tuple (natD (b :: q))) = true := plD_shaped (n := 1) (by decide) (plD_natD h2)
    have ha := alike_natD (b :: q)
    unfold maxV
    show (if (alikeB (natD (b :: q)) && SeqAt.shaped (.tuple (natD (b :: q)))) = true then some (PySem.W.maxD (.int (b : Nat)) (natD q)) else none) = _
    rw [ha, hs, if_pos (by rfl), natD_ints, PySem.W.maxD_ints]
    have := fold_top q b
    have e : topN 0 (b :: q) = topN (b + 1) q := by
      show topN (max 0 (b + 1)) q = _
      rw [Nat.max_eq_right (by omega)]
    rw [e, ← this]
    congr 2
    omega
/-- turns that draw -/
theorem draws_ev {f : D → M (Option D)} {P : Int → Prop} {c : Nat} (step : ∀ (d : D) (m : MS) (b : Nat), Mk m b → b < 100000 → ∃ v m', Ev (f d) m (some (.int v)) m' ∧ P v ∧ Mk m' (b + c)) (hc : c ≤ 10) :
    ∀ (ds : List D) (m : MS) (b : Nat), Mk m b → b + 10 * ds.length < 100000 → ∃ (vs : List Int) (m' : MS), Ev (lcL f ds) m (vs.map .int) m' ∧ vs.length = ds.length ∧ (∀ v ∈ vs, P v) ∧ Mk m' (b + c * ds.length)
  | [], m, b, hm, _ => ⟨[], m, rfl, rfl, (fun _ h => nomatch h), hm⟩
  | d :: ds, m, b, hm, hb => by
    rw [List.length_cons] at hb
    obtain ⟨v, m1, h1, h2, h3⟩ := step d m b hm (by omega)
    obtain ⟨vs, m2, h4, h5, h6, h7⟩ := draws_ev step hc ds m1 (b + c) h3 (by omega)
    refine ⟨v :: vs, m2, ev_bd h1 (ev_bd h4 rfl), by rw [List.length_cons, List.length_cons, h5], fun x hx => ?_, ?_⟩
    · rcases List.mem_cons.mp hx with rfl | hx
      · exact h2
      · exact h6 x hx
    · rw [List.length_cons, Nat.mul_add, Nat.mul_one, show b + (c * ds.length + c) = b + c + c * ds.length by omega]
      exact h7
theorem keys_ints (vs : List Int) : vs.map PyData.int = (vs.map fun i => (Sum.inl i : Key)).map keyD := by
  rw [List.map_map]
  rfl
theorem rng1_nat {n : Nat} (h : n ≤ 100000) : rng1 [.int (n : Nat)] = some (rngI 0 n) := by
  unfold rng1
  simp only [Int.toNat_natCast]
  rw [if_pos ⟨by omega, by omega⟩]
theorem IsP.top1 {p : List Nat} (hp : IsP p) : 1 ≤ topN 0 p := by
  cases p with
  | nil => exact absurd hp.l1 (by decide)
  | cons b q =>
    have := topN_mem (b :: q) 0 b List.mem_cons_self
    omega
theorem IsP.top2 {p : List Nat} (hp : IsP p) : topN 0 p ≤ 60 := by
  have h1 := topN_le p 0 hp.g
  have := hp.l2
  omega
theorem max1_ev {p : List Nat} (hp : IsP p) {i : Nat} {en : SE} {m : MS} (h : en[i]? = some (some (.tuple (natD p)))) : Ev (e2 addD (eL (one1 maxV) (aC (eVar i) aN)) (eC (.int 1)) en) m (.int (topN 0 p : Nat)) m :=
  v_e2 (v_eL (v_aC (v_var i h) v_aN) (maxV_natD hp.l1 fun b hb => by have := hp.small b hb; omega)) (v_c _) (by
    show some (PyData.int (((topN 0 p : Nat) : Int) - 1 + 1)) = _
    rw [show ((topN 0 p : Nat) : Int) - 1 + 1 = (topN 0 p : Nat) by omega])
theorem shaped_int (i : Int) : SeqAt.shaped (.int i) = true := by
  unfold SeqAt.shaped
  simp [PyData.canLay0, PyData.depth]
theorem eqD_int (a b : Int) : eqD (.int a) (.int b) = some (.bool (decide (a = b))) := by
  unfold eqD
  rw [shaped_int, shaped_int]
  show some (PyData.bool (a == b)) = _
  by_cases h : a = b
  · rw [decide_eq_true h, show (a == b) = true from beq_iff_eq.mpr h]
  · rw [decide_eq_false h, show (a == b) = false from beq_eq_false_iff_ne.mpr h]
theorem neD_int (a b : Int) : neD (.int a) (.int b) = some (.bool (!decide (a = b))) := by
  unfold neD
  rw [shaped_int, shaped_int]
  show some (PyData.bool (!(a == b))) = _
  by_cases h : a = b
  · rw [decide_eq_true h, show (a == b) = true from beq_iff_eq.mpr h]
  · rw [decide_eq_false h, show (a == b) = false from beq_eq_false_iff_ne.mpr h]
theorem ixT_nat {p : List Nat} {j : Nat} (h : j < p.length) : ixD (.tuple (natD p)) (.int (j : Nat)) = some (.int (p[j] : Nat)) := by
  show atI (natD p) (j : Int) = _
  exact atI_nat (by unfold natD; rw [List.getElem?_map, List.getElem?_eq_getElem h]; rfl)
theorem boolsD_map : ∀ bs : List Bool, boolsD (bs.map PyData.bool) = some bs
  | [] => rfl
  | b :: bs => by
    have ih := boolsD_map bs
    rw [List.map_cons]
    unfold boolsD
    rw [ih]
    rfl
theorem intsD_map : ∀ ns : List Int, intsD (ns.map PyData.int) = some ns
  | [] => rfl
  | n :: ns => by
    have ih := intsD_map ns
    rw [List.map_cons]
    unfold intsD
    rw [ih]
    rfl
theorem ixTn {p : List Nat} {j : Nat} (h : j < p.length) : ixD (.tuple (natD p)) (.int (j : Nat)) = some (.int (p.getD j 0 : Nat)) := by
  rw [ixT_nat h, List.getD_eq_getElem?_getD, List.getElem?_eq_getElem h]
  rfl
theorem ixLi {ls : List Int} {j : Nat} (h : j < ls.length) : ixD (.list (ls.map .int)) (.int (j : Nat)) = some (.int (ls.getD j 0)) := by
  show atI (ls.map PyData.int) (j : Int) = _
  rw [at_nat h, List.getD_eq_getElem?_getD, List.getElem?_eq_getElem h]
  rfl
theorem addN (a b : Nat) : addD (.int (a : Nat)) (.int (b : Nat)) = some (.int ((a + b : Nat) : Int)) := by
  show some (PyData.int ((a : Int) + (b : Int))) = _
  rw [show (a : Int) + (b : Int) = ((a + b : Nat) : Int) by omega]
theorem IsP.getD {p : List Nat} (hp : IsP p) {i : Nat} (h : i < p.length) : p.getD i 0 < topN 0 p := topN_mem p 0 _ (getD_mem h)
theorem lenT (p : List Nat) : one1 lenD [.tuple (natD p)] = some (.int (p.length : Nat)) := by
  show some (PyData.int ((natD p).length : Nat)) = _
  rw [natD_len]
theorem inD_ints {ns : List Int} {l : Int} : inD (.int l) (.list (ns.map .int)) = some (.bool (decide (l ∈ ns))) := by
  unfold inD
  show (if (SeqAt.shaped (.int l) && SeqAt.shaped (.list (ns.map PyData.int))) = true then some (PyData.bool ((ns.map PyData.int).any fun z => PyData.eqv z (.int l))) else none) = _
  rw [shapedI, PySem.W.shaped_ints ns]
  rw [if_pos (by rfl)]
  congr 2
  rw [List.any_map]
  induction ns with
  | nil => rfl
  | cons n ns ih =>
    rw [List.any_cons, ih]
    show ((n == l) || _) = _
    by_cases h : n = l
    · subst h
      rw [show (n == n) = true from beq_iff_eq.mpr rfl, decide_eq_true List.mem_cons_self]
      rfl
    · rw [show (n == l) = false from beq_eq_false_iff_ne.mpr h, Bool.false_or]
      by_cases t : l ∈ ns
      · rw [decide_eq_true t, decide_eq_true (List.mem_cons_of_mem _ t)]
      · rw [decide_eq_false t, decide_eq_false (fun q => (List.mem_cons.mp q).elim (fun e => h e.symm) t)]
/-- the labels met in a block -/
theorem met_map (k : Nat) : ∀ (ls : List Int) (q : List Nat), (zipD (ls.map .int) (natD q)).filterMap (fun d => match d with | .tuple [.int l, .int t] => if t = (k : Int) then some (PyData.int l) else none | _ => none) = (metOf q k ls).map .int
  | [], q => rfl
  | l :: ls, [] => rfl
  | l :: ls, t :: q => by
    have ih := met_map k ls q
    unfold metOf at ih ⊢
    have hz : zipD ((l :: ls).map .int) (natD (t :: q)) = .tuple [.int l, .int (t : Nat)] :: zipD (ls.map .int) (natD q) := rfl
    rw [hz, List.zip_cons_cons, List.filter_cons]
    by_cases h : t = k
    · subst h
      rw [List.filterMap_cons_some (b := .int l) (by show (if ((t : Nat) : Int) = (t : Int) then some (PyData.int l) else none) = _; rw [if_pos rfl]), ih, if_pos (by simp)]
      rfl
    · rw [List.filterMap_cons_none (by show (if ((t : Nat) : Int) = (k : Int) then some (PyData.int l) else none) = _; rw [if_neg (by omega)]), ih, if_neg (by simp [h])]
theorem joined_ev {p q : List Nat} (hp : IsP p) (hq : IsP q) (hl : q.length = p.length) {m : MS} :
    ∃ ls, Ev (fn_joined_labels [.tuple (natD p), .tuple (natD q)]) m (.list (ls.map .int)) m ∧ JI p q (topN 0 q) ls := by
  have t2 := hq.top2
  have t4 := hp.l2
  let I : Nat → SE → MS → Prop := fun i en m' => m' = m ∧ ∃ ls x3 x4 x5 x6, en = [some (.tuple (natD p)), some (.tuple (natD q)), some (.list (ls.map .int)), x3, x4, x5, x6] ∧ JI p q i ls
  obtain ⟨e', m', hloop, rfl, ls, x3, x4, x5, x6, rfl, hI⟩ := v_loop I (Gt := gNm 3) (B := (sq (sSet 4 (lcF (iA (zpB true false) (aC (eVar 2) (aC (eVar 1) aN))) (gTp 2 (gC (gNm 5) (gC (gNm 6) gN0))) (tV asB (e2 eqD (eVar 6) (eVar 3))) (eVar 5) [5, 6])) (sSetO 2 (lcF (iL seqL (eVar 2)) (gNm 5) tYs (eIf (tV asB (e2 inD (eVar 5) (eVar 4))) (e2 ixD (eVar 4) (eC (.int 0))) (eVar 5)) [5])))) (rngI 0 (topN 0 q)) 0
    [some (.tuple (natD p)), some (.tuple (natD q)), some (.list ((p.map fun (n : Nat) => (n : Int)).map .int)), none, none, none, none] m ⟨rfl, _, _, _, _, _, rfl, JI.start⟩ (by
      rintro k d en m' hd ⟨rfl, ls, x3, x4, x5, x6, rfl, h⟩
      obtain ⟨hk, rfl⟩ := rngI_inv hd
      rw [Int.zero_add]
      rw [Nat.zero_add] at h ⊢
      have hll := h.len
      have nxt := h.step hl
      have hm := v_lcO (f := lcStep (gTp 2 (gC (gNm 5) (gC (gNm 6) gN0))) (tV asB (e2 eqD (eVar 6) (eVar 3))) (eVar 5) (wipeE [some (.tuple (natD p)), some (.tuple (natD q)), some (.list (ls.map .int)), some (.int (k : Nat)), x4, x5, x6] [5, 6]))
        (fun d => match d with | .tuple [.int l, .int t] => if t = (k : Int) then some (PyData.int l) else none | _ => none) (m := m') (ds := zipD (ls.map .int) (natD q)) fun d hd => by
          obtain ⟨i, hi, rfl⟩ := List.getElem_of_mem hd
          unfold zipD at hi ⊢
          rw [List.length_zipWith, List.length_map, natD_len] at hi
          rw [List.getElem_zipWith, List.getElem_map]
          have e : (natD q)[i]'(by rw [natD_len]; omega) = .int (q[i]'(by omega) : Nat) := by unfold natD; rw [List.getElem_map]
          rw [e]
          show Ev _ _ (if ((q[i]'(by omega) : Nat) : Int) = (k : Int) then some (PyData.int ls[i]) else none) _
          by_cases t : q[i]'(by omega) = k
          · rw [if_pos (by omega)]
            exact v_stepT (v_gTp2 5 6 _ _ _ _) (by and_intros) (by and_intros)
          · rw [if_neg (by omega)]
            exact v_stepF (v_gTp2 5 6 _ _ _ _) (by and_intros)
      rw [met_map] at hm
      have hz : zpB true false [.list (ls.map .int), .tuple (natD q)] = some (zipD (ls.map .int) (natD q)) := rfl
      have hml : (metOf q k ls).length ≤ ls.length := by
        unfold metOf
        rw [List.length_map]
        refine Nat.le_trans (List.length_filter_le _ _) ?_
        rw [List.length_zip]
        omega
      have hln : ((metOf q k ls).map PyData.int).length ≤ lineN := by
        rw [List.length_map]
        show _ ≤ 16000000
        omega
      have hm2 := v_lcM (f := lcStep (gNm 5) tYs (eIf (tV asB (e2 inD (eVar 5) (eVar 4))) (e2 ixD (eVar 4) (eC (.int 0))) (eVar 5)) (wipeE [some (.tuple (natD p)), some (.tuple (natD q)), some (.list (ls.map .int)), some (.int (k : Nat)), some (.list ((metOf q k ls).map .int)), x5, x6] [5])) (onI fun l => if l ∈ metOf q k ls then (metOf q k ls).headD 0 else l) (m := m') (ds := ls.map .int) (fun d hd => by
          obtain ⟨l, _, rfl⟩ := List.mem_map.mp hd
          show Ev _ _ (some (PyData.int (if l ∈ metOf q k ls then (metOf q k ls).headD 0 else l))) _
          have hin := inD_ints (ns := metOf q k ls) (l := l)
          by_cases t : l ∈ metOf q k ls
          · rw [decide_eq_true t] at hin
            have h0 : ixD (.list ((metOf q k ls).map .int)) (.int 0) = some (.int ((metOf q k ls).headD 0)) := by
              have hpos : 0 < (metOf q k ls).length := List.length_pos_of_mem t
              have := ixLi (ls := metOf q k ls) (j := 0) hpos
              rw [show (metOf q k ls).headD 0 = (metOf q k ls).getD 0 0 by cases metOf q k ls <;> rfl]
              exact this
            rw [if_pos t]
            refine v_stepT (v_gNm _ _ _ _) (v_tYs _ _) ?_
            and_intros
          · rw [decide_eq_false t] at hin
            rw [if_neg t]
            refine v_stepT (v_gNm _ _ _ _) (v_tYs _ _) ?_
            and_intros)
      rw [map_onI] at hm2
      have hln2 : ((ls.map fun l => if l ∈ metOf q k ls then (metOf q k ls).headD 0 else l).map PyData.int).length ≤ lineN := by
        rw [List.length_map, List.length_map, hll]
        show _ ≤ 16000000
        omega
      refine ⟨_, m', _, m', by and_intros, .inl (v_sq (by and_intros) (by and_intros)), rfl, _, _, _, _, _, rfl, nxt⟩)
  refine ⟨ls, ?_, by rw [rngI_len, Nat.zero_add] at hI; exact hI⟩
  have rn := rng1_n (n := topN 0 q) (by omega)
  have hl0 : one1 listD [.tuple (natD p)] = some (.list ((p.map fun (n : Nat) => (n : Int)).map .int)) := by
    rw [← natD_ints]
    rfl
  refine v_runR (v_sq (by and_intros) (v_sq (v_for (v_iA (v_aC (max1_ev hq rfl) v_aN) rn) hloop) (by and_intros)))
theorem catN (p q : List Nat) (h : p.length + q.length ≤ 1000) : addD (.tuple (natD p)) (.tuple (natD q)) = some (.tuple (natD (p ++ q))) := by
  show (if (natD p).length + (natD q).length ≤ lineN then some (PyData.tuple (natD p ++ natD q)) else none) = _
  rw [natD_len, natD_len, if_pos (show p.length + q.length ≤ lineN by show _ ≤ 16000000; omega)]
  unfold natD
  rw [List.map_append]
def longer (r : List Nat) : List (List Nat) := (List.range (topN 0 r + 1)).map fun b => r ++ [b]
def rowsN : Nat → List (List Nat)
  | 0 => [[0]]
  | k + 1 => (rowsN k).flatMap longer
def rowD (r : List Nat) : D := .tuple (natD r)
theorem rows_len8 : ∀ k < 8, (rowsN k).length ≤ 5000 := by decide +kernel
theorem topN_snoc (r : List Nat) (k b : Nat) : topN k (r ++ [b]) = max (topN k r) (b + 1) := by
  unfold topN
  rw [List.foldl_append]
  rfl
structure RowOk (k : Nat) (r : List Nat) : Prop where
  len : r.length = k + 1
  top : topN 0 r ≤ k + 1
theorem rows_ok : ∀ k, ∀ r ∈ rowsN k, RowOk k r
  | 0, r, h => by
    have : r = [0] := List.mem_singleton.mp h
    subst this
    exact ⟨rfl, by decide⟩
  | k + 1, r, h => by
    obtain ⟨s, h1, h2⟩ := List.mem_flatMap.mp h
    obtain ⟨b, h3, rfl⟩ := List.mem_map.mp h2
    have h3 := List.mem_range.mp h3
    have ih := rows_ok k s h1
    have i1 := ih.len
    have i2 := ih.top
    refine ⟨by rw [List.length_append, List.length_singleton, i1], ?_⟩
    rw [topN_snoc]
    omega
theorem RowOk.small {k : Nat} {r : List Nat} (h : RowOk k r) (hk : k < 8) : ∀ b ∈ r, b < 1000000 := fun b hb => by
  have h1 := topN_mem r 0 b hb
  have h2 := h.top
  omega
theorem snocD (r : List Nat) (b : Nat) (h : r.length ≤ 100) : addD (rowD r) (.tuple [.int (b : Nat)]) = some (rowD (r ++ [b])) := by
  have := catN r [b] (by rw [List.length_singleton]; omega)
  exact this
theorem max2_ev {k : Nat} {r : List Nat} (h : RowOk k r) (hk : k < 8) {i : Nat} {en : SE} {m : MS} (he : en[i]? = some (some (rowD r))) : Ev (iA rng1 (aC (e2 addD (eL (one1 maxV) (aC (eVar i) aN)) (eC (.int 2))) aN) en) m (rngI 0 (topN 0 r + 1)) m := by
  have h1 := h.len
  have h2 := h.top
  refine v_iA (v_aC (v_e2 (v_eL (v_aC (v_var i he) v_aN) (maxV_natD (p := r) (by omega) (h.small hk))) (v_c _) (d := .int ((topN 0 r + 1 : Nat) : Int)) ?_) v_aN) (rng1_n (by omega))
  show some (PyData.int (((topN 0 r : Nat) : Int) - 1 + 2)) = _
  congr 2
  omega
/-- the longer rows of a row, by the turns of a comprehension -/
theorem longer_ev {k : Nat} {r : List Nat} (h : RowOk k r) (hk : k < 8) {f : D → M (Option D)} {m : MS} (hf : ∀ b : Nat, Ev (f (.int (b : Nat))) m (some (rowD (r ++ [b]))) m) : Ev (lcL f (rngI 0 (topN 0 r + 1))) m ((longer r).map rowD) m := by
  have h := v_lcM (f := f) (fun d => match d with | .int i => rowD (r ++ [i.toNat]) | d => d) (m := m) (ds := rngI 0 (topN 0 r + 1)) fun d hd => by
    obtain ⟨i, _, rfl⟩ := mem_rngI hd
    rw [Int.zero_add]
    show Ev _ _ (some (rowD (r ++ [((i : Nat) : Int).toNat]))) _
    rw [Int.toNat_natCast]
    exact hf i
  have e : (rngI 0 (topN 0 r + 1)).map (fun d => match d with | .int i => rowD (r ++ [i.toNat]) | d => d) = (longer r).map rowD := by
    unfold rngI longer
    rw [List.map_map, List.map_map]
    refine List.map_congr_left fun i _ => ?_
    show rowD (r ++ [((0 : Int) + (i : Nat)).toNat]) = _
    rw [Int.zero_add, Int.toNat_natCast]
    rfl
  rwa [e] at h
theorem v_lcLL {f : D → M (List D)} {m : MS} (g : D → List D) : ∀ {ds : List D}, (∀ d ∈ ds, Ev (f d) m (g d) m) → Ev (lcLL f ds) m (ds.flatMap g) m
  | [], _ => rfl
  | d :: ds, h => by
    refine ev_bd (h d List.mem_cons_self) (ev_bd (v_lcLL g (ds := ds) fun x hx => h x (List.mem_cons_of_mem _ hx)) ?_)
    rfl
theorem rows_flat (rows : List (List Nat)) : (rows.map rowD).flatMap (fun d => match d with | .tuple xs => (match ints? xs with | some ns => (longer (ns.map Int.toNat)).map rowD | none => []) | _ => []) = (rows.flatMap longer).map rowD := by
  rw [List.flatMap_map, List.map_flatMap]
  have flatMap_congr' : ∀ (l : List (List Nat)) (f g : List Nat → List D), (∀ r, f r = g r) → l.flatMap f = l.flatMap g := fun l f g h => by rw [show f = g from funext h]
  refine flatMap_congr' rows _ _ fun r => ?_
  show (match ints? (natD r) with | some ns => (longer (ns.map Int.toNat)).map rowD | none => []) = _
  rw [natD_ints, ints?_map]
  show (longer ((r.map fun (n : Nat) => (n : Int)).map Int.toNat)).map rowD = _
  rw [List.map_map, show (Int.toNat ∘ fun (n : Nat) => (n : Int)) = id from funext fun n => Int.toNat_natCast n, List.map_id]
theorem all_of_ev {k : Nat} (hk : k < 8) {m : MS} : Ev (fn_all_of [.int ((k + 1 : Nat) : Int)]) m (.list ((rowsN k).map rowD)) m := by
  let I : Nat → SE → MS → Prop := fun i en m' => m' = m ∧ ∃ (x2 x3 x4 : Option D), en = [some (.int ((k + 1 : Nat) : Int)), some (.list ((rowsN i).map rowD)), x2, x3, x4]
  obtain ⟨e', m', hloop, rfl, x2, x3, x4, rfl⟩ := v_loop I (Gt := gNm 2) (B := (sSetO 1 (lc2F (iL seqL (eVar 1)) (gNm 3) tYs (iA rng1 (aC (e2 addD (eL (one1 maxV) (aC (eVar 3) aN)) (eC (.int 2))) aN)) (gNm 4) tYs (e2 addD (eVar 3) (eL mkT (aC (eVar 4) aN))) [3, 4] [4]))) (rngI 1 k) 0
    [some (.int ((k + 1 : Nat) : Int)), some (.list ((rowsN 0).map rowD)), none, none, none] m ⟨rfl, _, _, _, rfl⟩ (by
      rintro i d en m' hd ⟨rfl, x2, x3, x4, rfl⟩
      obtain ⟨hi, rfl⟩ := rngI_inv hd
      rw [Nat.zero_add]
      have key := v_lcLL (f := lc2Step (gNm 3) tYs (iA rng1 (aC (e2 addD (eL (one1 maxV) (aC (eVar 3) aN)) (eC (.int 2))) aN)) (gNm 4) tYs (e2 addD (eVar 3) (eL mkT (aC (eVar 4) aN))) [4] (wipeE [some (.int ((k + 1 : Nat) : Int)), some (.list ((rowsN i).map rowD)), some (.int (1 + (i : Nat))), x3, x4] [3, 4])) (m := m')
        (fun d => match d with | .tuple xs => (match ints? xs with | some ns => (longer (ns.map Int.toNat)).map rowD | none => []) | _ => []) (ds := (rowsN i).map rowD) fun d hd => by
          obtain ⟨r, hr, rfl⟩ := List.mem_map.mp hd
          have ok := rows_ok i r hr
          have h1 := max2_ev ok (by omega) (i := 3) (en := ((wipeE [some (.int ((k + 1 : Nat) : Int)), some (.list ((rowsN i).map rowD)), some (.int (1 + (i : Nat))), x3, x4] [3, 4]).set 3 (some (rowD r)))) (m := m') rfl
          have h2 := longer_ev ok (by omega) (f := lcStep (gNm 4) tYs (e2 addD (eVar 3) (eL mkT (aC (eVar 4) aN))) (wipeE ((wipeE [some (.int ((k + 1 : Nat) : Int)), some (.list ((rowsN i).map rowD)), some (.int (1 + (i : Nat))), x3, x4] [3, 4]).set 3 (some (rowD r))) [4])) (m := m') fun b => by
            have := snocD r b (by have := ok.len; omega)
            refine v_stepT (v_gNm _ _ _ _) (v_tYs _ _) (v_e2 (v_var 3 rfl) (v_eL (v_aC (v_var 4 rfl) v_aN) rfl) this)
          have e : (match rowD r with | .tuple xs => (match ints? xs with | some ns => (longer (ns.map Int.toNat)).map rowD | none => []) | _ => []) = (longer r).map rowD := by
            show (match ints? (natD r) with | some ns => (longer (ns.map Int.toNat)).map rowD | none => []) = _
            rw [natD_ints, ints?_map]
            show (longer ((r.map fun (n : Nat) => (n : Int)).map Int.toNat)).map rowD = _
            rw [List.map_map, show (Int.toNat ∘ fun (n : Nat) => (n : Int)) = id from funext fun n => Int.toNat_natCast n, List.map_id]
          rw [e]
          exact ev_bd (v_gNm 3 _ _ m') (ev_bd (v_tYs _ m') (ev_bd h1 h2))
      rw [rows_flat] at key
      have hle := rows_len8 (i + 1) (by omega)
      refine ⟨_, m', _, m', v_gNm 2 _ _ m', .inl (v_setO 1 (d := .list ((rowsN (i + 1)).map rowD)) (ev_nox (ev_bd (v_iL (v_var 1 rfl) rfl) (ev_bd key ?_))) (Nat.le_of_ble_eq_true rfl)), rfl, _, _, _, rfl⟩
      show (if (((rowsN i).flatMap longer).map rowD).length ≤ lineN then pure (PyData.list (((rowsN i).flatMap longer).map rowD)) else M.no : M D) m' = _
      rw [if_pos]
      · rfl
      · rw [List.length_map]
        have hle : ((rowsN i).flatMap longer).length ≤ 5000 := hle
        show _ ≤ 16000000
        omega)
  have hrn : rng2 [.int 1, .int ((k + 1 : Nat) : Int)] = some (rngI 1 k) := by
    unfold rng2
    dsimp only
    rw [if_pos (by omega)]
    congr 2
    omega
  rw [rngI_len, Nat.zero_add] at hloop
  refine v_runR (v_sq (v_set 1 (v_eL (v_aC (v_eL (v_aC (v_c _) v_aN) rfl) v_aN) rfl)) (v_sq (v_for (v_iA (v_aC (v_c _) (v_aC (v_var 0 rfl) v_aN)) hrn) hloop) (v_ret (v_var 1 rfl))))
theorem law_partings_ev {k : Nat} (hk : k < 8) {m : MS} : Ev (fn__law_partings [.int ((k + 1 : Nat) : Int)]) m (.list ((rowsN k).map rowD)) m := by
  let I : Nat → SE → MS → Prop := fun i en m' => m' = m ∧ ∃ (x2 x3 x4 x5 : Option D), en = [some (.int ((k + 1 : Nat) : Int)), some (.list ((rowsN i).map rowD)), x2, x3, x4, x5]
  obtain ⟨e', m', hloop, rfl, x2, x3, x4, x5, rfl⟩ := v_loop I (Gt := gNm 2) (B := (sq (sSetO 3 (eL mkL aN)) (sq (sFor (iL seqL (eVar 1)) (gNm 4) (sMeth 3 extD (lcF (iA rng1 (aC (e2 addD (eL (one1 maxV) (aC (eVar 4) aN)) (eC (.int 2))) aN)) (gNm 5) tYs (e2 addD (eVar 4) (eL mkT (aC (eVar 5) aN))) [5]))) (sSet 1 (eVar 3))))) (rngI 0 k) 0
    [some (.int ((k + 1 : Nat) : Int)), some (.list ((rowsN 0).map rowD)), none, none, none, none] m ⟨rfl, _, _, _, _, rfl⟩ (by
      rintro i d en m' hd ⟨rfl, x2, x3, x4, x5, rfl⟩
      obtain ⟨hi, rfl⟩ := rngI_inv hd
      rw [Nat.zero_add]
      let J : Nat → SE → MS → Prop := fun j en m'' => m'' = m' ∧ ∃ (x4 x5 : Option D), en = [some (.int ((k + 1 : Nat) : Int)), some (.list ((rowsN i).map rowD)), some (.int (0 + (i : Nat))), some (.list ((((rowsN i).take j).flatMap longer).map rowD)), x4, x5]
      obtain ⟨e2', m2', hloop2, rfl, y4, y5, rfl⟩ := v_loop J (Gt := gNm 4) (B := (sMeth 3 extD (lcF (iA rng1 (aC (e2 addD (eL (one1 maxV) (aC (eVar 4) aN)) (eC (.int 2))) aN)) (gNm 5) tYs (e2 addD (eVar 4) (eL mkT (aC (eVar 5) aN))) [5]))) ((rowsN i).map rowD) 0
        [some (.int ((k + 1 : Nat) : Int)), some (.list ((rowsN i).map rowD)), some (.int (0 + (i : Nat))), some (.list []), x4, x5] m' ⟨rfl, _, _, rfl⟩ (by
          rintro j d en m'' hd ⟨rfl, z4, z5, rfl⟩
          obtain ⟨r, hr, rfl⟩ := map_inv hd
          rw [Nat.zero_add]
          have ok := rows_ok i r (List.mem_of_getElem? hr)
          have h1 := max2_ev ok (by omega) (i := 4) (en := [some (.int ((k + 1 : Nat) : Int)), some (.list ((rowsN i).map rowD)), some (.int (0 + (i : Nat))), some (.list ((((rowsN i).take j).flatMap longer).map rowD)), some (rowD r), z5]) (m := m'') rfl
          have h2 := longer_ev ok (by omega) (f := lcStep (gNm 5) tYs (e2 addD (eVar 4) (eL mkT (aC (eVar 5) aN))) (wipeE [some (.int ((k + 1 : Nat) : Int)), some (.list ((rowsN i).map rowD)), some (.int (0 + (i : Nat))), some (.list ((((rowsN i).take j).flatMap longer).map rowD)), some (rowD r), z5] [5])) (m := m'') fun b => by
            have := snocD r b (by have := ok.len; omega)
            refine v_stepT (v_gNm _ _ _ _) (v_tYs _ _) (v_e2 (v_var 4 rfl) (v_eL (v_aC (v_var 5 rfl) v_aN) rfl) this)
          have hll : ((longer r).map rowD).length ≤ lineN := by
            unfold longer
            rw [List.length_map, List.length_map, List.length_range]
            have := ok.top
            show _ ≤ 16000000
            omega
          have hsplit : ((rowsN i).take (j + 1)).flatMap longer = ((rowsN i).take j).flatMap longer ++ longer r := by
            rw [take_snoc hr, List.flatMap_append]
            simp
          have hle := rows_len8 (i + 1) (by omega)
          have hle : ((rowsN i).flatMap longer).length ≤ 5000 := hle
          have hsub : (((rowsN i).take (j + 1)).flatMap longer).length ≤ ((rowsN i).flatMap longer).length := by
            conv => rhs; rw [← List.take_append_drop (j + 1) (rowsN i)]
            rw [List.flatMap_append, List.length_append]
            omega
          rw [hsplit, List.length_append] at hsub
          refine ⟨_, m'', _, m'', v_gNm 4 _ _ m'', .inl (v_app 3 (r := (((rowsN i).take (j + 1)).flatMap longer).map rowD) rfl (v_lc h1 h2 hll) ?_), rfl, _, _, rfl⟩
          show (if _ + _ ≤ lineN then some (_ ++ _) else none) = _
          rw [if_pos, hsplit, List.map_append]
          rw [List.length_map, List.length_map]
          show _ ≤ 16000000
          omega)
      rw [List.length_map, Nat.zero_add, List.take_length] at hloop2
      refine ⟨_, m2', _, m2', v_gNm 2 _ _ m2', .inl (v_sq (v_setO 3 (v_eL v_aN rfl) (Nat.le_of_ble_eq_true rfl)) (v_sq (v_for (v_iL (v_var 1 rfl) rfl) hloop2) (v_set 1 (v_var 3 rfl)))), rfl, _, _, _, _, rfl⟩)
  rw [rngI_len, Nat.zero_add] at hloop
  have hsub : subD (.int ((k + 1 : Nat) : Int)) (.int 1) = some (.int (k : Nat)) := by
    show some (PyData.int (((k + 1 : Nat) : Int) - 1)) = _
    congr 2
    omega
  refine v_runR (v_sq (v_set 1 (v_eL (v_aC (v_eL (v_aC (v_c _) v_aN) rfl) v_aN) rfl)) (v_sq (v_for (v_iA (v_aC (v_e2 (v_var 0 rfl) (v_c _) hsub) v_aN) (rng1_n (n := k) (by omega))) hloop) (v_ret (v_var 1 rfl))))
theorem bulk_int (i : Int) : (PyData.int i).bulk ≤ 1 := by simp [PyData.bulk]
theorem bulk_bool (i : Bool) : (PyData.bool i).bulk ≤ 1 := by simp [PyData.bulk]
theorem bulk_list {B : Nat} {xs : List D} (h : ∀ x ∈ xs, x.bulk ≤ B) : (PyData.list xs).bulk ≤ (B + 1) * xs.length := by
  simp only [PyData.bulk]
  exact bulkAll_le xs h
theorem bulk_tuple {B : Nat} {xs : List D} (h : ∀ x ∈ xs, x.bulk ≤ B) : (PyData.tuple xs).bulk ≤ (B + 1) * xs.length := by
  simp only [PyData.bulk]
  exact bulkAll_le xs h
theorem bulk_nat {p : List Nat} (h : p.length ≤ 1000) : (PyData.tuple (natD p)).bulk ≤ 2000 := by
  have := bulk_tuple (B := 1) (xs := natD p) fun x hx => by
    obtain ⟨b, _, rfl⟩ := List.mem_map.mp hx
    exact bulk_int _
  rw [natD_len] at this
  omega
theorem ex_sq {S S' : SE → M Ctl} {en e : SE} {m m1 : MS} {k : Ctl} (h : Ev (S en) m (.nx e) m1) (h' : ∃ m', Ev (S' e) m1 k m') : ∃ m', Ev (sq S S' en) m k m' := by
  obtain ⟨m', h'⟩ := h'
  exact ⟨m', v_sq h h'⟩
theorem draw_nat {m : MS} {b L : Nat} (h : Mk m b) (hb : b < 1000000) (h0 : 0 < L) (h1 : L < 1073741824) : ∃ (v : Nat) (m' : MS), Ev (fn__law_draw [.int (L : Nat)]) m (.int (v : Nat)) m' ∧ v < L ∧ Mk m' (b + 1) := by
  obtain ⟨v, m', e, v0, v1, k⟩ := draw_ev (L := (L : Nat)) h hb (by omega) (by omega)
  obtain ⟨n, rfl⟩ := Int.eq_ofNat_of_zero_le v0
  exact ⟨n, m', e, by omega, k⟩
theorem isP_of {κ : Type} [DecidableEq κ] {p : List Nat} (hp : IsP p) {xs : List κ} (h : xs.length = p.length) : IsP (num xs) := isP_num (by rw [h]; exact hp.l1) (by rw [h]; exact hp.l2)
theorem IsP.small6 {p : List Nat} (hp : IsP p) : ∀ b ∈ p, b < 1000000 := fun b hb => by have := hp.small b hb; omega
end K15
namespace K15
open PySem L2 VL K01
/-! ### two partings that meet in a tree -/
def Conn (p q : List Nat) : Prop := ∀ f : Nat → Int, (∀ i j, i < p.length → j < p.length → p.getD i 0 = p.getD j 0 → f i = f j) → (∀ i j, i < p.length → j < p.length → q.getD i 0 = q.getD j 0 → f i = f j) → ∀ i j, i < p.length → j < p.length → f i = f j
theorem Conn.glue {p q : List Nat} {L : Nat → Int} (h : Glue p q L) : Conn p q ↔ ∀ i j, i < p.length → j < p.length → L i = L j :=
  ⟨fun c => c L h.one h.two, fun c f h1 h2 i j hi hj => h.low f h1 h2 i j hi hj (c i j hi hj)⟩
theorem Conn.swap {p q : List Nat} (hl : q.length = p.length) : Conn p q ↔ Conn q p := by
  unfold Conn
  rw [hl]
  exact ⟨fun c f h1 h2 => c f h2 h1, fun c f h1 h2 => c f h2 h1⟩
def Tree (p q : List Nat) : Prop := topN 0 p + topN 0 q = p.length + 1 ∧ Conn p q
theorem Tree.swap {p q : List Nat} (hl : q.length = p.length) : Tree p q ↔ Tree q p := by
  unfold Tree
  rw [Conn.swap hl, hl, Nat.add_comm (topN 0 p)]
open Classical in
noncomputable def treeB (p q : List Nat) : Bool := decide (Tree p q)
open Classical in
theorem treeB_T {p q : List Nat} (h : Tree p q) : treeB p q = true := by
  unfold treeB
  exact decide_eq_true h
open Classical in
theorem treeB_F {p q : List Nat} (h : ¬ Tree p q) : treeB p q = false := by
  unfold treeB
  exact decide_eq_false h
open Classical in
theorem treeB_iff {p q : List Nat} : treeB p q = true ↔ Tree p q := by
  unfold treeB
  exact decide_eq_true_iff
theorem treeB_dec {p q : List Nat} {b : Bool} (h : b = true ↔ Tree p q) : treeB p q = b := by
  cases b with
  | true => exact treeB_T (h.mp rfl)
  | false => exact treeB_F fun z => Bool.false_ne_true (h.mpr z)
theorem treeB_swap {p q : List Nat} (hl : q.length = p.length) : treeB p q = treeB q p := by
  unfold treeB
  exact decide_eq_decide.mpr (Tree.swap hl)
/-! ### the labels of the nodes, door by door -/
def uStep (p q : List Nat) (s k : Nat) (ls : List Int) : List Int := ls.map fun l => if l = ls.getD (p.getD k 0) 0 then ls.getD (s + q.getD k 0) 0 else l
theorem HI.ustep {p q : List Nat} {s t k : Nat} {ls : List Int} (h : HI p q s t k ls) (hk : k < p.length) (hp : ∀ i, i < p.length → p.getD i 0 < s) (hq : ∀ i, i < p.length → q.getD i 0 < t) : HI p q s t (k + 1) (uStep p q s k ls) := by
  have hl := h.len
  have e : ∀ x, x < s + t → (uStep p q s k ls).getD x 0 = if ls.getD x 0 = ls.getD (p.getD k 0) 0 then ls.getD (s + q.getD k 0) 0 else ls.getD x 0 := fun x hx => by
    unfold uStep
    rw [getD_map (by omega)]
  refine ⟨by unfold uStep; rw [List.length_map]; exact hl, fun i hi => ?_, fun g hg x y hx hy hxy => ?_⟩
  · have h1 := hp i (by omega)
    have h2 := hq i (by omega)
    rw [e _ (by omega), e _ (by omega)]
    by_cases c : i = k
    · subst c
      rw [if_pos rfl]
      by_cases d : ls.getD (s + q.getD i 0) 0 = ls.getD (p.getD i 0) 0
      · rw [if_pos d]
      · rw [if_neg d]
    · rw [h.met i (by omega)]
  · rw [e x hx, e y hy] at hxy
    have gk := hg k hk
    have h1 := hp k hk
    have h2 := hq k hk
    by_cases c : ls.getD x 0 = ls.getD (p.getD k 0) 0 <;> by_cases d : ls.getD y 0 = ls.getD (p.getD k 0) 0
    · exact h.low g hg x y hx hy (c.trans d.symm)
    · rw [if_pos c, if_neg d] at hxy
      rw [h.low g hg x _ hx (by omega) c, gk]
      exact h.low g hg _ y (by omega) hy hxy
    · rw [if_neg c, if_pos d] at hxy
      rw [h.low g hg y _ hy (by omega) d, gk]
      exact h.low g hg x _ hx (by omega) hxy
    · rw [if_neg c, if_neg d] at hxy
      exact h.low g hg x y hx hy hxy
/-- how many labels there are -/
def cnt (N : Nat) (ls : List Int) : Nat := (List.range N).countP fun (y : Nat) => decide ((y : Int) ∈ ls)
theorem countP_le_of {α : Type} {P Q : α → Bool} : ∀ {l : List α}, (∀ x ∈ l, P x = true → Q x = true) → l.countP P ≤ l.countP Q := fun h => List.countP_mono_left h
theorem cnt_del {N : Nat} {P Q : Nat → Bool} {a : Nat} (ha : a < N) (hP : P a = true) (hQ : ∀ y, y < N → (Q y = true ↔ P y = true ∧ y ≠ a)) : (List.range N).countP Q + 1 = (List.range N).countP P := by
  induction N with
  | zero => omega
  | succ N ih =>
    rw [List.range_succ, List.countP_append, List.countP_append, List.countP_cons, List.countP_cons, List.countP_nil, List.countP_nil]
    by_cases e : a = N
    · subst e
      have hq : Q a = false := by
        cases z : Q a with
        | false => rfl
        | true => exact absurd rfl ((hQ a (by omega)).mp z).2
      rw [hq, hP]
      have : (List.range a).countP Q = (List.range a).countP P := by
        refine List.countP_congr fun y hy => ?_
        have hy := List.mem_range.mp hy
        rw [hQ y (by omega)]
        exact ⟨fun z => z.1, fun z => ⟨z, by omega⟩⟩
      rw [this]
      rfl
    · have := ih (by omega) (fun y hy => hQ y (by omega))
      have hn : Q N = P N := by
        cases z : P N with
        | true => exact (hQ N (by omega)).mpr ⟨z, fun q => e q.symm⟩
        | false =>
          cases z2 : Q N with
          | false => rfl
          | true => exact absurd ((hQ N (by omega)).mp z2).1 (by rw [z]; exact Bool.false_ne_true)
      rw [hn]
      omega
/-- the labels are numbers of nodes -/
def InN (N : Nat) (ls : List Int) : Prop := ls.length = N ∧ ∀ l ∈ ls, 0 ≤ l ∧ l < N
theorem InN.get {N : Nat} {ls : List Int} (h : InN N ls) {x : Nat} (hx : x < N) : ls.getD x 0 ∈ ls := by
  rw [List.getD_eq_getElem?_getD, List.getElem?_eq_getElem (by rw [h.1]; exact hx)]
  exact List.getElem_mem _
theorem InN.step {N : Nat} {p q : List Nat} {s k : Nat} {ls : List Int} (h : InN N ls) (h2 : s + q.getD k 0 < N) : InN N (uStep p q s k ls) := by
  refine ⟨by unfold uStep; rw [List.length_map]; exact h.1, fun l hl => ?_⟩
  obtain ⟨l', hl', rfl⟩ := List.mem_map.mp hl
  split
  · exact h.2 _ (h.get h2)
  · exact h.2 _ hl'
theorem mem_uStep {N : Nat} {p q : List Nat} {s k : Nat} {ls : List Int} (h : InN N ls) (h1 : p.getD k 0 < N) (h2 : s + q.getD k 0 < N) (ne : ls.getD (p.getD k 0) 0 ≠ ls.getD (s + q.getD k 0) 0) {l : Int} : l ∈ uStep p q s k ls ↔ l ∈ ls ∧ l ≠ ls.getD (p.getD k 0) 0 := by
  unfold uStep
  constructor
  · intro hl
    obtain ⟨l', hl', rfl⟩ := List.mem_map.mp hl
    split
    · exact ⟨h.get h2, fun e => ne e.symm⟩
    · rename_i c
      exact ⟨hl', c⟩
  · rintro ⟨hl, hn⟩
    exact List.mem_map.mpr ⟨l, hl, if_neg hn⟩
theorem uStep_same {p q : List Nat} {s k : Nat} {ls : List Int} (e : ls.getD (p.getD k 0) 0 = ls.getD (s + q.getD k 0) 0) : uStep p q s k ls = ls := by
  unfold uStep
  rw [← e]
  have : ∀ l : Int, (if l = ls.getD (p.getD k 0) 0 then ls.getD (p.getD k 0) 0 else l) = l := fun l => by
    by_cases c : l = ls.getD (p.getD k 0) 0
    · rw [if_pos c, c]
    · rw [if_neg c]
  simp only [this, List.map_id']
theorem cnt_step {N : Nat} {p q : List Nat} {s k : Nat} {ls : List Int} (h : InN N ls) (h1 : p.getD k 0 < N) (h2 : s + q.getD k 0 < N) (ne : ls.getD (p.getD k 0) 0 ≠ ls.getD (s + q.getD k 0) 0) : cnt N (uStep p q s k ls) + 1 = cnt N ls := by
  have b := h.2 _ (h.get h1)
  have e : ((ls.getD (p.getD k 0) 0).toNat : Int) = ls.getD (p.getD k 0) 0 := by omega
  refine cnt_del (a := (ls.getD (p.getD k 0) 0).toNat) (by omega) (decide_eq_true (by rw [e]; exact h.get h1)) fun y hy => ?_
  rw [decide_eq_true_iff, decide_eq_true_iff, mem_uStep h h1 h2 ne]
  exact ⟨fun z => ⟨z.1, fun c => z.2 (by rw [← e, c])⟩, fun z => ⟨z.1, fun c => z.2 (by omega)⟩⟩
theorem InN.start {N : Nat} : InN N ((List.range N).map fun (i : Nat) => (i : Int)) := by
  refine ⟨by simp, fun l hl => ?_⟩
  obtain ⟨i, hi, rfl⟩ := List.mem_map.mp hl
  have := List.mem_range.mp hi
  omega
theorem cnt_start {N : Nat} : cnt N ((List.range N).map fun (i : Nat) => (i : Int)) = N := by
  unfold cnt
  rw [List.countP_eq_length.mpr, List.length_range]
  intro y hy
  exact decide_eq_true (List.mem_map.mpr ⟨y, hy, rfl⟩)
theorem cnt_one {N : Nat} {ls : List Int} (h : InN N ls) (c : cnt N ls ≤ 1) {a b : Int} (ha : a ∈ ls) (hb : b ∈ ls) : a = b := by
  have a1 := h.2 a ha
  have b1 := h.2 b hb
  by_cases e : a = b
  · exact e
  · exfalso
    have k1 := cnt_del (N := N) (P := fun (y : Nat) => decide ((y : Int) ∈ ls)) (Q := fun (y : Nat) => decide ((y : Int) ∈ ls ∧ y ≠ a.toNat)) (a := a.toNat) (by omega) (decide_eq_true (by rw [show (a.toNat : Int) = a by omega]; exact ha)) fun y hy => by
      rw [decide_eq_true_iff, decide_eq_true_iff]
    have k2 := cnt_del (N := N) (P := fun (y : Nat) => decide ((y : Int) ∈ ls ∧ y ≠ a.toNat)) (Q := fun (y : Nat) => decide (((y : Int) ∈ ls ∧ y ≠ a.toNat) ∧ y ≠ b.toNat)) (a := b.toNat) (by omega) (decide_eq_true ⟨by rw [show (b.toNat : Int) = b by omega]; exact hb, by omega⟩) fun y hy => by
      rw [decide_eq_true_iff, decide_eq_true_iff]
    unfold cnt at c
    omega
theorem cnt_all {N : Nat} {ls : List Int} (c : ∀ a b : Int, a ∈ ls → b ∈ ls → a = b) : cnt N ls ≤ 1 := by
  unfold cnt
  have key : ∀ N, (List.range N).countP (fun (y : Nat) => decide ((y : Int) ∈ ls)) ≤ 1 ∧ (∀ y : Nat, (y : Int) ∈ ls → N ≤ y → (List.range N).countP (fun (y : Nat) => decide ((y : Int) ∈ ls)) = 0) := by
    intro N
    induction N with
    | zero => exact ⟨by simp, fun y _ _ => by simp⟩
    | succ N ih =>
      rw [List.range_succ, List.countP_append, List.countP_cons, List.countP_nil]
      by_cases m : (N : Int) ∈ ls
      · rw [ih.2 N m (Nat.le_refl _), decide_eq_true m]
        exact ⟨by decide, fun y hy hn => by have := c _ _ m hy; omega⟩
      · rw [decide_eq_false m]
        exact ⟨ih.1, fun y hy hn => ih.2 y hy (by omega)⟩
  exact (key N).1
/-- each block is met -/
theorem rg_mem : ∀ (p : List Nat) (k x : Nat), rg k p → k ≤ x → x < topN k p → x ∈ p
  | [], k, x, _, h1, h2 => by
    have : topN k ([] : List Nat) = k := rfl
    omega
  | b :: p, k, x, h, h1, h2 => by
    obtain ⟨g1, g2⟩ := h
    by_cases e : x = b
    · rw [e]; exact List.mem_cons_self
    · refine List.mem_cons_of_mem _ (rg_mem p (max k (b + 1)) x g2 ?_ h2)
      omega
end K15
namespace K15
open PySem L2 VL K01
/-! ### the labels, door by door, and what they tell -/
def labs (p q : List Nat) (s N : Nat) : Nat → List Int
  | 0 => (List.range N).map fun (i : Nat) => (i : Int)
  | k + 1 => uStep p q s k (labs p q s N k)
def badD (p q : List Nat) (s N k : Nat) : Bool := decide ((labs p q s N k).getD (p.getD k 0) 0 = (labs p q s N k).getD (s + q.getD k 0) 0)
section
variable {p q : List Nat} {s t : Nat} (hp : ∀ i, i < p.length → p.getD i 0 < s) (hq : ∀ i, i < p.length → q.getD i 0 < t)
include hp hq
theorem labs_hi : ∀ k, k ≤ p.length → HI p q s t k (labs p q s (s + t) k) ∧ InN (s + t) (labs p q s (s + t) k)
  | 0, _ => ⟨HI.start, InN.start⟩
  | k + 1, h => by
    obtain ⟨h1, h2⟩ := labs_hi k (by omega)
    have a := hp k (by omega)
    have b := hq k (by omega)
    exact ⟨HI.ustep h1 (by omega) hp hq, h2.step (by omega)⟩
/-- so many labels are left at least -/
theorem cnt_ge : ∀ k, k ≤ p.length → s + t ≤ cnt (s + t) (labs p q s (s + t) k) + (List.range k).countP (fun j => !badD p q s (s + t) j) ∧ cnt (s + t) (labs p q s (s + t) k) + (List.range k).countP (fun j => !badD p q s (s + t) j) ≤ s + t
  | 0, _ => by
    show s + t ≤ cnt (s + t) ((List.range (s + t)).map fun (i : Nat) => (i : Int)) + 0 ∧ _
    rw [show labs p q s (s + t) 0 = (List.range (s + t)).map fun (i : Nat) => (i : Int) from rfl, cnt_start]
    exact ⟨Nat.le_refl _, Nat.le_refl _⟩
  | k + 1, h => by
    obtain ⟨i1, i2⟩ := cnt_ge k (by omega)
    obtain ⟨h1, h2⟩ := labs_hi hp hq k (by omega)
    have a := hp k (by omega)
    have b := hq k (by omega)
    rw [List.range_succ, List.countP_append, List.countP_cons, List.countP_nil]
    show s + t ≤ cnt (s + t) (uStep p q s k (labs p q s (s + t) k)) + _ ∧ cnt (s + t) (uStep p q s k (labs p q s (s + t) k)) + _ ≤ _
    by_cases c : (labs p q s (s + t) k).getD (p.getD k 0) 0 = (labs p q s (s + t) k).getD (s + q.getD k 0) 0
    · rw [uStep_same c, show badD p q s (s + t) k = true from decide_eq_true c]
      exact ⟨i1, i2⟩
    · have := cnt_step h2 (by omega) (by omega) c
      rw [show badD p q s (s + t) k = false from decide_eq_false c]
      simp only [Bool.not_false, if_true]
      omega
/-- no door closes a ring exactly if all hang together -/
theorem conn_iff (hl : q.length = p.length) (h1 : 1 ≤ p.length) (hst : s + t = p.length + 1) (sp : ∀ x, x < s → x ∈ p) (sq' : ∀ x, x < t → x ∈ q) : (∀ j, j < p.length → badD p q s (s + t) j = false) ↔ Conn p q := by
  obtain ⟨g1, g2⟩ := labs_hi hp hq p.length (Nat.le_refl _)
  obtain ⟨c1, c2⟩ := cnt_ge hp hq p.length (Nat.le_refl _)
  have gl := g1.glue hl hp hq
  rw [Conn.glue gl]
  constructor
  · intro h i j hi hj
    have e : (List.range p.length).countP (fun j => !badD p q s (s + t) j) = p.length := by
      rw [List.countP_eq_length.mpr, List.length_range]
      intro x hx
      rw [h x (List.mem_range.mp hx)]
      rfl
    have a := hp i hi
    have b := hp j hj
    exact cnt_one g2 (by omega) (g2.get (by omega)) (g2.get (by omega))
  · intro h j hj
    cases z : badD p q s (s + t) j with
    | false => rfl
    | true =>
      exfalso
      have e : (List.range p.length).countP (fun j => !badD p q s (s + t) j) < p.length := by
        have k1 := List.countP_le_length (p := fun j => !badD p q s (s + t) j) (l := List.range p.length)
        rw [List.length_range] at k1
        refine Nat.lt_of_le_of_ne k1 fun e => ?_
        have k2 : (List.range p.length).countP (fun j => !badD p q s (s + t) j) = (List.range p.length).length := by rw [List.length_range]; exact e
        have := List.countP_eq_length.mp k2 j (List.mem_range.mpr hj)
        rw [z] at this
        cases this
      have key : ∀ x, x < s + t → ∃ i, i < p.length ∧ (labs p q s (s + t) p.length).getD x 0 = (labs p q s (s + t) p.length).getD (p.getD i 0) 0 := fun x hx => by
        by_cases hs : x < s
        · have a := getD_idxOf (sp x hs)
          exact ⟨p.idxOf x, a.2, by rw [a.1]⟩
        · have a := getD_idxOf (sq' (x - s) (by omega))
          refine ⟨q.idxOf (x - s), by omega, ?_⟩
          rw [g1.met _ (by omega), a.1, show s + (x - s) = x by omega]
      have all : ∀ a b : Int, a ∈ labs p q s (s + t) p.length → b ∈ labs p q s (s + t) p.length → a = b := fun a b ha hb => by
        obtain ⟨x, hx, rfl⟩ := List.getElem_of_mem ha
        obtain ⟨y, hy, rfl⟩ := List.getElem_of_mem hb
        have lx := g2.1
        obtain ⟨i, hi, e1⟩ := key x (by omega)
        obtain ⟨i', hi', e2⟩ := key y (by omega)
        rw [List.getD_eq_getElem?_getD, List.getElem?_eq_getElem hx] at e1
        rw [List.getD_eq_getElem?_getD, List.getElem?_eq_getElem hy] at e2
        have e1 : (labs p q s (s + t) p.length)[x] = _ := e1
        have e2 : (labs p q s (s + t) p.length)[y] = _ := e2
        rw [e1, e2]
        exact h i i' hi hi'
      have := cnt_all (N := s + t) all
      omega
end
/-! ### roots -/
def RootIn (rs : List Nat) (N : Nat) : Nat → Nat → Nat → Prop
  | 0, x, l => x < N ∧ x = l ∧ rs.getD x 0 = x
  | k + 1, x, l => x < N ∧ ((x = l ∧ rs.getD x 0 = x) ∨ (rs.getD x 0 ≠ x ∧ RootIn rs N k (rs.getD x 0) l))
theorem RootIn.end {rs : List Nat} {N : Nat} : ∀ {k x l : Nat}, RootIn rs N k x l → l < N ∧ rs.getD l 0 = l
  | 0, x, l, h => by obtain ⟨h1, rfl, h2⟩ := h; exact ⟨h1, h2⟩
  | k + 1, x, l, h => by
    obtain ⟨h1, ⟨rfl, h2⟩ | ⟨_, h2⟩⟩ := h
    · exact ⟨h1, h2⟩
    · exact h2.end
theorem RootIn.up {rs : List Nat} {N : Nat} : ∀ {k x l : Nat}, RootIn rs N k x l → RootIn rs N (k + 1) x l
  | 0, x, l, h => ⟨h.1, .inl h.2⟩
  | k + 1, x, l, h => ⟨h.1, h.2.imp id fun z => ⟨z.1, z.2.up⟩⟩
theorem getD_set {rs : List Nat} {a b x : Nat} (ha : a < rs.length) : (rs.set a b).getD x 0 = if x = a then b else rs.getD x 0 := by
  rw [List.getD_eq_getElem?_getD, List.getD_eq_getElem?_getD]
  by_cases e : x = a
  · subst e
    rw [List.getElem?_set_self ha, if_pos rfl]
    rfl
  · rw [List.getElem?_set_ne (fun z => e z.symm), if_neg e]
theorem RootIn.keep {rs : List Nat} {N a b : Nat} (ha : a < rs.length) (ra : rs.getD a 0 = a) : ∀ {k x l : Nat}, RootIn rs N k x l → l ≠ a → RootIn (rs.set a b) N k x l
  | 0, x, l, h, hl => by
    obtain ⟨h1, rfl, h2⟩ := h
    exact ⟨h1, rfl, by rw [getD_set ha, if_neg hl]; exact h2⟩
  | k + 1, x, l, h, hl => by
    obtain ⟨h1, h2⟩ := h
    by_cases e : x = a
    · subst e
      rcases h2 with ⟨rfl, _⟩ | ⟨n, _⟩
      · exact absurd rfl hl
      · exact absurd ra n
    · refine ⟨h1, ?_⟩
      rw [getD_set ha, if_neg e]
      exact h2.imp id fun z => ⟨z.1, z.2.keep ha ra hl⟩
theorem RootIn.link {rs : List Nat} {N a b : Nat} (ha : a < rs.length) (hb : b < N) (ra : rs.getD a 0 = a) (rb : rs.getD b 0 = b) (ne : a ≠ b) : ∀ {k x : Nat}, RootIn rs N k x a → RootIn (rs.set a b) N (k + 1) x b
  | 0, x, h => by
    obtain ⟨h1, rfl, h2⟩ := h
    refine ⟨h1, .inr ?_⟩
    rw [getD_set ha, if_pos rfl]
    exact ⟨fun z => ne z.symm, hb, rfl, by rw [getD_set ha, if_neg fun z => ne z.symm]; exact rb⟩
  | k + 1, x, h => by
    obtain ⟨h1, h2⟩ := h
    by_cases e : x = a
    · subst e
      refine ⟨h1, .inr ?_⟩
      rw [getD_set ha, if_pos rfl]
      refine ⟨fun z => ne z.symm, hb, .inl ⟨rfl, by rw [getD_set ha, if_neg fun z => ne z.symm]; exact rb⟩⟩
    · rcases h2 with ⟨e2, _⟩ | ⟨n, h2⟩
      · exact absurd e2 e
      · refine ⟨h1, .inr ?_⟩
        rw [getD_set ha, if_neg e]
        exact ⟨n, h2.link ha hb ra rb ne⟩
theorem setIx_nat {rs : List Nat} {a b : Nat} (h : a < rs.length) : setIx (natD rs) (.int (a : Nat)) (.int (b : Nat)) = some (natD (rs.set a b)) := by
  have := setIx_int (ns := rs.map fun (n : Nat) => (n : Int)) (k := a) (v := b) (by omega) (by rw [List.length_map]; omega)
  rw [List.map_map] at this
  rw [show natD rs = rs.map (PyData.int ∘ fun (n : Nat) => (n : Int)) from rfl, this, Int.toNat_natCast, List.map_set, List.map_map]
  unfold natD
  rw [List.map_set]
  rfl
theorem root_wh {rs : List Nat} {N : Nat} (hN : rs.length = N) {m : MS} : ∀ {k x l f : Nat}, RootIn rs N k x l → k < f →
    Ev (whL (tV asB (e2 neD (e2 ixD (eVar 0) (eVar 1)) (eVar 1))) (sSet 1 (e2 ixD (eVar 0) (eVar 1))) f [some (.list (natD rs)), some (.int (x : Nat))]) m (.nx [some (.list (natD rs)), some (.int (l : Nat))]) m
  | k, x, l, 0, _, h => by omega
  | k, x, l, f + 1, h, hf => by
    have hx : x < N := by cases k with | zero => exact h.1 | succ k => exact h.1
    have ix : ixD (.list (natD rs)) (.int (x : Nat)) = some (.int (rs.getD x 0 : Nat)) := by
      have := ixLi (ls := rs.map fun (n : Nat) => (n : Int)) (j := x) (by rw [List.length_map]; omega)
      rw [List.map_map] at this
      rw [show natD rs = rs.map (PyData.int ∘ fun (n : Nat) => (n : Int)) from rfl, this]
      congr 2
      simp [List.getD_eq_getElem?_getD, List.getElem?_map]
      rw [List.getElem?_eq_getElem (by omega)]
      rfl
    have fin : x = l → rs.getD x 0 = x → Ev (whL (tV asB (e2 neD (e2 ixD (eVar 0) (eVar 1)) (eVar 1))) (sSet 1 (e2 ixD (eVar 0) (eVar 1))) (f + 1) [some (.list (natD rs)), some (.int (x : Nat))]) m (.nx [some (.list (natD rs)), some (.int (l : Nat))]) m := fun e1 e2 => by
      subst e1
      exact v_whD (v_tV (v_e2 (v_e2 (v_var 0 rfl) (v_var 1 rfl) ix) (v_var 1 rfl) (neF (by rw [e2]))) rfl)
    cases k with
    | zero => exact fin h.2.1 h.2.2
    | succ k =>
      obtain ⟨_, ⟨e1, e2⟩ | ⟨ne, h2⟩⟩ := h
      · exact fin e1 e2
      · exact v_whT (v_tV (v_e2 (v_e2 (v_var 0 rfl) (v_var 1 rfl) ix) (v_var 1 rfl) (neT (by omega))) rfl) (v_set 1 (v_e2 (v_var 0 rfl) (v_var 1 rfl) ix)) (root_wh hN h2 (by omega))
theorem root_ev {rs : List Nat} {N k x l : Nat} (hN : rs.length = N) (h : RootIn rs N k x l) (hk : k < 64) {m : MS} : Ev (fn__law_root [.list (natD rs), .int (x : Nat)]) m (.int (l : Nat)) m :=
  v_runR (v_sq (root_wh hN h hk) (v_ret (v_var 1 rfl)))
end K15
namespace K15
open PySem L2 VL K01
theorem v_eAndT {F G : SE → M D} {en : SE} {d : D} {m m1 m2 : MS} (h : Ev (F en) m (.bool true) m1) (k : Ev (G en) m1 d m2) : Ev (eAnd F G en) m d m2 := ev_bd h (ev_bd (ev_lft (a := true) m1 rfl) k)
theorem v_eAndF {F G : SE → M D} {en : SE} {m m1 : MS} (h : Ev (F en) m (.bool false) m1) : Ev (eAnd F G en) m (.bool false) m1 := ev_bd h (ev_bd (ev_lft (a := false) m1 rfl) rfl)
/-! ### has_tree -/
theorem fm_one {val : Nat → Int} {c : Int} : ∀ n, (∀ i, i < n + 1 → val i = c) → PyProof.Rows.firstMet val (n + 1) = [c]
  | 0, h => by
    rw [PyProof.Rows.firstMet_succ, PyProof.Rows.firstMet_zero, h 0 (by omega)]
    rfl
  | n + 1, h => by
    rw [PyProof.Rows.firstMet_succ, fm_one n fun i hi => h i (by omega), h (n + 1) (by omega)]
    unfold PyProof.Rows.step_dedup
    rw [if_pos (by simp)]
theorem setLen_one {ls : List Int} (h : 1 ≤ ls.length) : setLen ls = 1 ↔ ∀ i j, i < ls.length → j < ls.length → ls.getD i 0 = ls.getD j 0 := by
  unfold setLen
  constructor
  · intro e i j hi hj
    have key : ∀ k, k < ls.length → (PyProof.Rows.firstMet (fun i => ls.getD i 0) ls.length).any (· == ls.getD k 0) = true := fun k hk => by
      rw [PyProof.Rows.firstMet_any]
      refine List.any_eq_true.mpr ⟨_, List.mem_map.mpr ⟨k, List.mem_range.mpr hk, rfl⟩, ?_⟩
      exact beq_self_eq_true _
    match hf : PyProof.Rows.firstMet (fun i => ls.getD i 0) ls.length, e with
    | [c], _ =>
      have a := key i hi
      have b := key j hj
      rw [hf] at a b
      simp at a b
      simp only [List.getD_eq_getElem?_getD]
      rw [← a, ← b]
  · intro e
    obtain ⟨n, hn⟩ : ∃ n, ls.length = n + 1 := ⟨ls.length - 1, by omega⟩
    rw [hn, fm_one (c := ls.getD 0 0) n fun i hi => e i 0 (by omega) (by omega)]
    rfl
theorem max0_ev {p : List Nat} (hp : IsP p) {i : Nat} {en : SE} {m : MS} (h : en[i]? = some (some (.tuple (natD p)))) : Ev (eL (one1 maxV) (aC (eVar i) aN) en) m (.int ((topN 0 p : Nat) - 1)) m :=
  v_eL (v_aC (v_var i h) v_aN) (maxV_natD hp.l1 fun b hb => by have := hp.small b hb; omega)
theorem hang_ev {p q : List Nat} (hp : IsP p) (hq : IsP q) (hl : q.length = p.length) {m : MS} : ∃ k : Nat, Ev (fn_blocks_hang [.tuple (natD p), .tuple (natD q)]) m (.int (k : Nat)) m ∧ (k = 1 ↔ Conn p q) := by
  obtain ⟨ls, h1, h2⟩ := joined_ev hp hq hl (m := ms0)
  have l1 := hp.l1
  have l2 := hp.l2
  have ll := h2.len
  have g := h2.glue fun i hi => hq.getD (by omega)
  refine ⟨setLen ls, v_runR (v_ret (v_e1 (v_call (v_aC (v_var 0 rfl) (v_aC (v_var 1 rfl) v_aN)) h1) ?_)), ?_⟩
  · unfold lenSetD
    show (intsD (ls.map .int)).bind _ = _
    rw [intsD_ints]
    show (if ls.length ≤ 4000 then _ else _) = _
    rw [if_pos (by omega)]
  · rw [setLen_one (by omega), Conn.glue g, ll]
theorem has_tree_ev {p q : List Nat} (hp : IsP p) (hq : IsP q) (hl : q.length = p.length) {m : MS} : Ev (fn_has_tree [.tuple (natD p), .tuple (natD q)]) m (.bool (treeB p q)) m := by
  obtain ⟨k, h1, h2⟩ := hang_ev hp hq hl (m := ms0)
  have t1 := hp.top1
  have t2 := hq.top1
  have sum : ∀ en : SE, en[0]? = some (some (.tuple (natD p))) → en[1]? = some (some (.tuple (natD q))) → Ev (e2 addD (e2 addD (eL (one1 maxV) (aC (eVar 0) aN)) (eL (one1 maxV) (aC (eVar 1) aN))) (eC (.int 1)) en) m (.int (((topN 0 p : Nat) - 1) + ((topN 0 q : Nat) - 1) + 1)) m := fun en e0 e1 =>
    v_e2 (v_e2 (max0_ev hp e0) (max0_ev hq e1) rfl) (v_c _) rfl
  refine v_runR (v_ret ?_)
  have hlen : ∀ en : SE, en[0]? = some (some (.tuple (natD p))) → Ev (eL (one1 lenD) (aC (eVar 0) aN) en) m (.int (p.length : Nat)) m := fun en e0 => v_eL (v_aC (v_var 0 e0) v_aN) (lenT p)
  by_cases c : topN 0 p + topN 0 q = p.length + 1
  · refine v_eAndT (v_e2 (sum _ rfl rfl) (hlen _ rfl) (eqT (by omega))) ?_
    have e : treeB p q = decide ((k : Int) = 1) := by
      refine treeB_dec ?_
      unfold Tree
      rw [decide_eq_true_iff, ← h2]
      exact ⟨fun z => ⟨c, by omega⟩, fun z => by rw [z.2]; rfl⟩
    rw [e]
    refine v_e2 (v_call (v_aC (v_var 0 rfl) (v_aC (v_var 1 rfl) v_aN)) h1) (v_c _) (eqD_I _ _)
  · have e : treeB p q = false := treeB_F fun z => c z.1
    rw [e]
    exact v_eAndF (v_e2 (sum _ rfl rfl) (hlen _ rfl) (eqF (by omega)))
/-! ### the law's meeting -/
theorem meet_ev {p q : List Nat} (hp : IsP p) (hq : IsP q) (hl : q.length = p.length) {m : MS} : Ev (fn__law_meet [.tuple (natD p), .tuple (natD q)]) m (.bool (treeB p q)) m := by
  have t1 := hp.top1
  have t2 := hq.top1
  have l1 := hp.l1
  have l2 := hp.l2
  have m1 := max1_ev hp (i := 0) (en := env0 8 [.tuple (natD p), .tuple (natD q)]) (m := m) rfl
  have m2 := max1_ev hq (i := 1) (en := env0 8 [.tuple (natD p), .tuple (natD q)]) (m := m) rfl
  have st0 : Ev (sPar 4 5 (aC (e2 addD (eL (one1 maxV) (aC (eVar 0) aN)) (eC (.int 1))) (aC (e2 addD (eL (one1 maxV) (aC (eVar 1) aN)) (eC (.int 1))) aN)) (env0 8 [.tuple (natD p), .tuple (natD q)])) m (.nx [some (.tuple (natD p)), some (.tuple (natD q)), none, none, some (.int (topN 0 p : Nat)), some (.int (topN 0 q : Nat)), none, none]) m :=
    v_par 4 5 (v_aC m1 (v_aC m2 v_aN))
  by_cases c : topN 0 p + topN 0 q = p.length + 1
  · have hP : ∀ i, i < p.length → p.getD i 0 < topN 0 p := fun i hi => hp.getD hi
    have hQ : ∀ i, i < p.length → q.getD i 0 < topN 0 q := fun i hi => hq.getD (by omega)
    have hpl := conn_iff hP hQ hl l1 c (fun x hx => rg_mem p 0 x hp.g (Nat.zero_le _) hx) fun x hx => rg_mem q 0 x hq.g (Nat.zero_le _) hx
    have hcond : Ev (sIf (tV asB (e2 neD (e2 addD (eVar 4) (eVar 5)) (e2 addD (eL (one1 lenD) (aC (eVar 0) aN)) (eC (.int 1))))) (sRet (eC (.bool false))) sNx [some (.tuple (natD p)), some (.tuple (natD q)), none, none, some (.int (topN 0 p : Nat)), some (.int (topN 0 q : Nat)), none, none]) m (.nx [some (.tuple (natD p)), some (.tuple (natD q)), none, none, some (.int (topN 0 p : Nat)), some (.int (topN 0 q : Nat)), none, none]) m :=
      v_sIfF (v_tV (v_e2 (v_e2 (v_var 4 rfl) (v_var 5 rfl) rfl) (v_e2 (v_eL (v_aC (v_var 0 rfl) v_aN) (lenT p)) (v_c _) rfl) (neF (by omega))) rfl) v_nx
    have hN : lrngD (.int ((topN 0 p : Nat) + (topN 0 q : Nat))) = some (.list (natD (List.range (topN 0 p + topN 0 q)))) := by
      have := lrng_n (n := topN 0 p + topN 0 q) (by omega)
      rw [show ((topN 0 p + topN 0 q : Nat) : Int) = (topN 0 p : Nat) + (topN 0 q : Nat) by omega] at this
      rw [this]
      unfold rngI natD
      simp
    let I : Nat → SE → Prop := fun k en => ∃ rs x3 x6 x7, en = [some (.tuple (natD p)), some (.tuple (natD q)), some (.list (natD rs)), x3, some (.int (topN 0 p : Nat)), some (.int (topN 0 q : Nat)), x6, x7] ∧ rs.length = topN 0 p + topN 0 q ∧
      ∀ x, x < topN 0 p + topN 0 q → ∃ l : Nat, (labs p q (topN 0 p) (topN 0 p + topN 0 q) k).getD x 0 = (l : Int) ∧ RootIn rs (topN 0 p + topN 0 q) k x l
    have loop := v_search (m := m) (r := .bool false) (Gt := gNm 3) (B := (sq (sPar 6 7 (aC (eCallL fn__law_root 2 (aC (e2 ixD (eVar 0) (eVar 3)) aN)) (aC (eCallL fn__law_root 2 (aC (e2 addD (eVar 4) (e2 ixD (eVar 1) (eVar 3))) aN)) aN))) (sq (sIf (tV asB (e2 eqD (eVar 6) (eVar 7))) (sRet (eC (.bool false))) sNx) (sSetIx 2 (eVar 6) (eVar 7))))) I (fun k => badD p q (topN 0 p) (topN 0 p + topN 0 q) k) (rngI 0 p.length) 0
      [some (.tuple (natD p)), some (.tuple (natD q)), some (.list (natD (List.range (topN 0 p + topN 0 q)))), none, some (.int (topN 0 p : Nat)), some (.int (topN 0 q : Nat)), none, none] ⟨_, _, _, _, rfl, List.length_range, fun x hx => ⟨x, by
        show ((List.range (topN 0 p + topN 0 q)).map fun (i : Nat) => (i : Int)).getD x 0 = _
        simp [List.getD_eq_getElem?_getD, hx], hx, rfl, by simp [List.getD_eq_getElem?_getD, hx]⟩⟩ (by
      rintro k d en hd ⟨rs, x3, x6, x7, rfl, hrs, hI⟩
      obtain ⟨hk, rfl⟩ := rngI_inv hd
      rw [Nat.zero_add] at hI ⊢
      rw [Int.zero_add]
      have a1 := hP k hk
      have a2 := hQ k hk
      obtain ⟨la, ea, ra⟩ := hI (p.getD k 0) (by omega)
      obtain ⟨lb, eb, rb⟩ := hI (topN 0 p + q.getD k 0) (by omega)
      have r1 := root_ev hrs ra (by omega) (m := ms0)
      have r2 := root_ev hrs rb (by omega) (m := ms0)
      have call1 : Ev (eCallL fn__law_root 2 (aC (e2 ixD (eVar 0) (eVar 3)) aN) [some (.tuple (natD p)), some (.tuple (natD q)), some (.list (natD rs)), some (.int (k : Nat)), some (.int (topN 0 p : Nat)), some (.int (topN 0 q : Nat)), x6, x7]) m (.int (la : Nat)) m :=
        v_callL rfl (v_aC (v_e2 (v_var 0 rfl) (v_var 3 rfl) (ixTn hk)) v_aN) r1 rfl
      have call2 : Ev (eCallL fn__law_root 2 (aC (e2 addD (eVar 4) (e2 ixD (eVar 1) (eVar 3))) aN) [some (.tuple (natD p)), some (.tuple (natD q)), some (.list (natD rs)), some (.int (k : Nat)), some (.int (topN 0 p : Nat)), some (.int (topN 0 q : Nat)), x6, x7]) m (.int (lb : Nat)) m :=
        v_callL rfl (v_aC (v_e2 (v_var 4 rfl) (v_e2 (v_var 1 rfl) (v_var 3 rfl) (ixTn (by omega))) (addN _ _)) v_aN) r2 rfl
      have pr := v_par 6 7 (v_aC call1 (v_aC call2 v_aN))
      refine ⟨_, v_gNm 3 _ _ m, ?_⟩
      have bd : badD p q (topN 0 p) (topN 0 p + topN 0 q) k = decide (la = lb) := by
        unfold badD
        rw [ea, eb]
        exact decide_eq_decide.mpr (by omega)
      rw [bd]
      by_cases e : la = lb
      · refine .inr ⟨decide_eq_true e, v_sq pr (v_sqR (v_sIfT (v_tV (v_e2 (v_var 6 rfl) (v_var 7 rfl) (eqT (by omega))) rfl) (v_ret (v_c _))))⟩
      · have ha := ra.end
        have hb := rb.end
        refine .inl ⟨decide_eq_false e, _, v_sq pr (v_sq (v_sIfF (v_tV (v_e2 (v_var 6 rfl) (v_var 7 rfl) (eqF (by omega))) rfl) v_nx) (v_setIx 2 (v_var 7 rfl) rfl (v_var 6 rfl) (setIx_nat (by omega)))), rs.set la lb, _, _, _, rfl, by rw [List.length_set]; exact hrs, fun x hx => ?_⟩
        obtain ⟨l, el, rl⟩ := hI x hx
        have el2 : (labs p q (topN 0 p) (topN 0 p + topN 0 q) (k + 1)).getD x 0 = if (l : Int) = (la : Int) then (lb : Int) else (l : Int) := by
          show (uStep p q (topN 0 p) k (labs p q (topN 0 p) (topN 0 p + topN 0 q) k)).getD x 0 = _
          unfold uStep
          rw [getD_map (by rw [(labs_hi hP hQ k (by omega)).2.1]; exact hx), el, ea, eb]
        by_cases z : l = la
        · subst z
          exact ⟨lb, by rw [el2, if_pos rfl], rl.link (by omega) hb.1 ha.2 hb.2 e⟩
        · exact ⟨l, by rw [el2, if_neg (by omega)], (rl.keep (by omega) ha.2 z).up⟩)
    have rn : iA rng1 (aC (eL (one1 lenD) (aC (eVar 0) aN)) aN) [some (.tuple (natD p)), some (.tuple (natD q)), some (.list (natD (List.range (topN 0 p + topN 0 q)))), none, some (.int (topN 0 p : Nat)), some (.int (topN 0 q : Nat)), none, none] m = .ok (rngI 0 p.length) m :=
      v_iA (v_aC (v_eL (v_aC (v_var 0 rfl) v_aN) (lenT p)) v_aN) (rng1_n (by omega))
    have so : Ev (sSetO 2 (e1 lrngD (e2 addD (eVar 4) (eVar 5))) [some (.tuple (natD p)), some (.tuple (natD q)), none, none, some (.int (topN 0 p : Nat)), some (.int (topN 0 q : Nat)), none, none]) m (.nx [some (.tuple (natD p)), some (.tuple (natD q)), some (.list (natD (List.range (topN 0 p + topN 0 q)))), none, some (.int (topN 0 p : Nat)), some (.int (topN 0 q : Nat)), none, none]) m :=
      v_setO 2 (v_e1 (v_e2 (v_var 4 rfl) (v_var 5 rfl) rfl) hN) (by show 2 < 8; decide)
    rcases loop with ⟨⟨j, hj, hb⟩, hl2⟩ | ⟨hn, e', hl2, _⟩
    · have e : treeB p q = false := by
        refine treeB_F fun z => ?_
        have := hpl.mpr z.2 j (by rw [rngI_len] at hj; exact hj)
        rw [Nat.zero_add] at hb
        rw [hb] at this
        cases this
      rw [e]
      exact v_runR (v_sq st0 (v_sq hcond (v_sq so (v_sqR (v_for rn hl2)))))
    · have e : treeB p q = true := by
        refine treeB_T ⟨c, hpl.mp fun j hj => ?_⟩
        have := hn j (by rw [rngI_len]; exact hj)
        rwa [Nat.zero_add] at this
      rw [e]
      exact v_runR (v_sq st0 (v_sq hcond (v_sq so (v_sq (v_for rn hl2) (v_ret (v_c _))))))
  · have e : treeB p q = false := treeB_F fun z => c z.1
    rw [e]
    exact v_runR (v_sq st0 (v_sqR (v_sIfT (v_tV (v_e2 (v_e2 (v_var 4 rfl) (v_var 5 rfl) rfl) (v_e2 (v_eL (v_aC (v_var 0 rfl) v_aN) (lenT p)) (v_c _) rfl) (neT (by omega))) rfl) (v_ret (v_c _)))))
end K15
namespace K15
open PySem L2 VL K01
theorem RowD.isP {r : List Nat} : rowD r = .tuple (natD r) := rfl
/-! ### rows as partings -/
theorem rg_snoc : ∀ (r : List Nat) (k b : Nat), rg k (r ++ [b]) ↔ rg k r ∧ b ≤ topN k r
  | [], k, b => by
    show b ≤ k ∧ True ↔ True ∧ b ≤ k
    exact ⟨fun h => ⟨trivial, h.1⟩, fun h => ⟨h.2, trivial⟩⟩
  | c :: r, k, b => by
    show (c ≤ k ∧ rg (max k (c + 1)) (r ++ [b])) ↔ (c ≤ k ∧ rg (max k (c + 1)) r) ∧ b ≤ topN (max k (c + 1)) r
    rw [rg_snoc r _ b]
    exact ⟨fun h => ⟨⟨h.1, h.2.1⟩, h.2.2⟩, fun h => ⟨h.1.1, h.1.2, h.2⟩⟩
theorem rows_mem : ∀ (k : Nat) (r : List Nat), r ∈ rowsN k ↔ r.length = k + 1 ∧ rg 0 r
  | 0, r => by
    show r ∈ [[0]] ↔ _
    rw [List.mem_singleton]
    constructor
    · rintro rfl
      exact ⟨rfl, Nat.le_refl _, trivial⟩
    · rintro ⟨h1, h2⟩
      match r, h1 with
      | [b], _ =>
        obtain ⟨h, _⟩ := h2
        rw [Nat.le_zero.mp h]
  | k + 1, r => by
    show r ∈ (rowsN k).flatMap longer ↔ _
    rw [List.mem_flatMap]
    constructor
    · rintro ⟨u, hu, hr⟩
      obtain ⟨h1, h2⟩ := (rows_mem k u).mp hu
      obtain ⟨b, hb, rfl⟩ := List.mem_map.mp hr
      have hb := List.mem_range.mp hb
      exact ⟨by rw [List.length_append, h1]; rfl, (rg_snoc u 0 b).mpr ⟨h2, by omega⟩⟩
    · rintro ⟨h1, h2⟩
      have hne : r ≠ [] := fun z => by rw [z] at h1; cases h1
      have e := List.dropLast_concat_getLast hne
      rw [← e] at h2
      obtain ⟨g1, g2⟩ := (rg_snoc _ 0 _).mp h2
      refine ⟨r.dropLast, (rows_mem k _).mpr ⟨by rw [List.length_dropLast, h1]; rfl, g1⟩, List.mem_map.mpr ⟨r.getLast hne, List.mem_range.mpr (by omega), e⟩⟩
/-- a row of k + 1 doors -/
structure Row (k : Nat) (r : List Nat) : Prop where
  len : r.length = k + 1
  g : rg 0 r
theorem Row.isP {k : Nat} {r : List Nat} (h : Row k r) (hk : k < 8) : IsP r := ⟨by rw [h.len]; omega, by rw [h.len]; omega, h.g⟩
theorem Row.mem {k : Nat} {r : List Nat} : r ∈ rowsN k ↔ Row k r := by
  rw [rows_mem]
  exact ⟨fun h => ⟨h.1, h.2⟩, fun h => ⟨h.1, h.2⟩⟩
theorem Row.of {k : Nat} {p : List Nat} (h : IsP p) (hl : p.length = k + 1) : Row k p := ⟨hl, h.g⟩
/-! ### rows compared -/
theorem eqvAll_nat : ∀ a b : List Nat, PyData.eqvAll (natD a) (natD b) = decide (a = b)
  | [], [] => by
    show PyData.eqvAll [] [] = _
    simp [PyData.eqvAll]
  | [], y :: b => by
    show PyData.eqvAll [] (_ :: _) = _
    simp [PyData.eqvAll]
  | x :: a, [] => by
    show PyData.eqvAll (_ :: _) [] = _
    simp [PyData.eqvAll]
  | x :: a, y :: b => by
    show PyData.eqvAll (.int (x : Nat) :: natD a) (.int (y : Nat) :: natD b) = _
    simp only [PyData.eqvAll]
    rw [eqvAll_nat a b]
    have : PyData.eqv (.int (x : Nat)) (.int (y : Nat)) = decide (x = y) := by
      simp only [PyData.eqv]
      by_cases h : x = y
      · subst h
        rw [decide_eq_true rfl]
        exact beq_self_eq_true _
      · rw [decide_eq_false h]
        exact beq_eq_false_iff_ne.mpr (by omega)
    rw [this]
    by_cases h : x = y <;> by_cases h' : a = b <;> simp [h, h']
theorem eqv_row (a b : List Nat) : PyData.eqv (rowD a) (rowD b) = decide (a = b) := by
  show PyData.eqv (.tuple (natD a)) (.tuple (natD b)) = _
  simp only [PyData.eqv]
  exact eqvAll_nat a b
def castI (r : List Nat) : List Int := r.map fun (n : Nat) => (n : Int)
def code (r : List Nat) : Int := TS.code 64 (castI r)
theorem intsD_nat (r : List Nat) : intsD (natD r) = some (castI r) := by
  rw [natD_ints]
  exact intsD_ints _
theorem row_tupI (r : List Nat) : rowD r = tupI (castI r) := by
  show PyData.tuple (natD r) = .tuple _
  rw [natD_ints]
  rfl
theorem row_inj {a b : List Nat} (h : rowD a = rowD b) : a = b := by
  have : PyData.eqv (rowD a) (rowD b) = true := by rw [h, eqv_row, decide_eq_true rfl]
  rw [eqv_row] at this
  exact of_decide_eq_true this
def leN (a b : List Nat) : Bool := lexLeT (castI a) (castI b)
theorem leTD_row (a b : List Nat) : leTD (rowD a) (rowD b) = some (.bool (leN a b)) := by
  show (intsD (natD a)).bind _ = _
  rw [intsD_nat]
  show (intsD (natD b)).bind _ = _
  rw [intsD_nat]
  rfl
def Small (r : List Nat) : Prop := ∀ b ∈ r, b < 64
theorem Small.bd {r : List Nat} (h : Small r) : TS.Bd 64 (castI r) := fun m hm => by
  obtain ⟨b, hb, rfl⟩ := List.mem_map.mp hm
  have := h b hb
  omega
theorem Row.small {k : Nat} {r : List Nat} (h : Row k r) (hk : k < 8) : Small r := fun b hb => by
  have := (h.isP hk).small b hb
  omega
theorem code_lex : ∀ (n : Nat) (a b : List Int) (i : Nat), a.length = i + n → b.length = i + n → TS.Bd 64 a → TS.Bd 64 b →
    Ob.lexAt (fun j => decide (a.getD j 0 = b.getD j 0)) (fun j => decide (a.getD j 0 ≤ b.getD j 0)) true i n = decide (TS.code 64 (a.drop i) ≤ TS.code 64 (b.drop i))
  | 0, a, b, i, h1, h2, _, _ => by
    rw [List.drop_eq_nil_of_le (by omega), List.drop_eq_nil_of_le (by omega)]
    exact (decide_eq_true (Int.le_refl _)).symm
  | n + 1, a, b, i, h1, h2, b1, b2 => by
    have ea : a.drop i = a.getD i 0 :: a.drop (i + 1) := by
      rw [List.drop_eq_getElem_cons (by omega), List.getD_eq_getElem?_getD, List.getElem?_eq_getElem (by omega)]
      rfl
    have eb : b.drop i = b.getD i 0 :: b.drop (i + 1) := by
      rw [List.drop_eq_getElem_cons (by omega), List.getD_eq_getElem?_getD, List.getElem?_eq_getElem (by omega)]
      rfl
    have d1 : TS.Bd 64 (a.drop (i + 1)) := fun m hm => b1 m (List.mem_of_mem_drop hm)
    have d2 : TS.Bd 64 (b.drop (i + 1)) := fun m hm => b2 m (List.mem_of_mem_drop hm)
    have dl : (a.drop (i + 1)).length = (b.drop (i + 1)).length := by rw [List.length_drop, List.length_drop]; omega
    rw [Ob.lexAt_succ, ea, eb]
    by_cases e : a.getD i 0 = b.getD i 0
    · rw [if_pos (decide_eq_true e), code_lex n a b (i + 1) (by omega) (by omega) b1 b2, e]
      refine decide_eq_decide.mpr ?_
      show _ ↔ b.getD i 0 * 64 ^ (a.drop (i + 1)).length + TS.code 64 (a.drop (i + 1)) ≤ b.getD i 0 * 64 ^ (b.drop (i + 1)).length + TS.code 64 (b.drop (i + 1))
      rw [dl]
      omega
    · rw [if_neg (by rw [decide_eq_false e]; exact Bool.false_ne_true)]
      refine decide_eq_decide.mpr ?_
      rcases Int.lt_or_gt_of_ne e with q | q
      · have := TS.code_lt dl d1 d2 q
        exact ⟨fun _ => Int.le_of_lt this, fun _ => Int.le_of_lt q⟩
      · have := TS.code_lt dl.symm d2 d1 q
        constructor <;> intro z <;> omega
theorem leN_code {a b : List Nat} (hl : a.length = b.length) (ha : Small a) (hb : Small b) : leN a b = decide (code a ≤ code b) := by
  have l1 : (castI a).length = a.length := List.length_map _
  have l2 : (castI b).length = b.length := List.length_map _
  unfold leN lexLeT
  rw [show decide ((castI a).length ≤ (castI b).length) = true from decide_eq_true (by omega), show min (castI a).length (castI b).length = a.length by omega]
  exact code_lex a.length (castI a) (castI b) 0 (by omega) (by omega) ha.bd hb.bd
theorem leN_nil {a : List Nat} (h : 1 ≤ a.length) : leN a [] = false := by
  have l1 : (castI a).length = a.length := List.length_map _
  unfold leN lexLeT
  rw [show decide ((castI a).length ≤ (castI []).length) = false from decide_eq_false (by rw [l1]; show ¬ a.length ≤ 0; omega)]
  rw [show min (castI a).length (castI []).length = 0 from Nat.min_eq_right (Nat.zero_le _)]
  rfl
/-- rows in ascending order -/
def Asc (lot : List (List Nat)) : Prop := lot.Pairwise fun a b => code a < code b
theorem rows_asc : ∀ k < 6, Asc (rowsN k) := by
  have key : ∀ l : List Int, l.Pairwise (· < ·) ↔ (l.zip (l.drop 1)).all (fun x => decide (x.1 < x.2)) = true := by
    intro l
    induction l with
    | nil => simp
    | cons a l ih =>
      cases l with
      | nil => simp
      | cons b l =>
        rw [List.pairwise_cons, ih]
        simp only [List.drop_succ_cons, List.drop_zero, List.zip_cons_cons, List.all_cons, Bool.and_eq_true, decide_eq_true_eq]
        constructor
        · rintro ⟨h1, h2⟩
          exact ⟨h1 b List.mem_cons_self, by simpa using h2⟩
        · rintro ⟨h1, h2⟩
          refine ⟨fun x hx => ?_, by simpa using h2⟩
          have := ih.mpr (by simpa using h2)
          rcases List.mem_cons.mp hx with rfl | hx
          · exact h1
          · exact Int.lt_trans h1 ((List.pairwise_cons.mp this).1 x hx)
  have all : ∀ k < 6, (((rowsN k).map code).zip (((rowsN k).map code).drop 1)).all (fun x => decide (x.1 < x.2)) = true := by decide +kernel
  intro k hk
  have := (key _).mpr (all k hk)
  rw [List.pairwise_map] at this
  exact this
/-- a lot of rows -/
structure Lot (k : Nat) (lot : List (List Nat)) : Prop where
  row : ∀ r ∈ lot, Row k r
  asc : Asc lot
/-! ### what meets all of a lot -/
noncomputable def Tn (k : Nat) (lot : List (List Nat)) : List (List Nat) := (rowsN k).filter fun r => lot.all fun o => treeB r o
theorem mem_Tn {k : Nat} {lot : List (List Nat)} {r : List Nat} : r ∈ Tn k lot ↔ Row k r ∧ ∀ o ∈ lot, treeB r o = true := by
  unfold Tn
  rw [List.mem_filter, Row.mem, List.all_eq_true]
theorem Tn_lot {k : Nat} (hk : k < 6) (lot : List (List Nat)) : Lot k (Tn k lot) := ⟨fun r hr => (mem_Tn.mp hr).1, (rows_asc k hk).sublist List.filter_sublist⟩
theorem Tn_sub {k : Nat} {a b : List (List Nat)} (h : ∀ o ∈ a, o ∈ b) : ∀ r ∈ Tn k b, r ∈ Tn k a := fun r hr => by
  obtain ⟨h1, h2⟩ := mem_Tn.mp hr
  exact mem_Tn.mpr ⟨h1, fun o ho => h2 o (h o ho)⟩
theorem Tn_two {k : Nat} {lot : List (List Nat)} (hr : ∀ r ∈ lot, Row k r) : ∀ r ∈ lot, r ∈ Tn k (Tn k lot) := fun r h => mem_Tn.mpr ⟨hr r h, fun o ho => by
  obtain ⟨h1, h2⟩ := mem_Tn.mp ho
  rw [treeB_swap (by rw [h1.len, (hr r h).len])]
  exact h2 r h⟩
theorem Tn_congr {k : Nat} {a b : List (List Nat)} (h : ∀ r, Row k r → ((∀ o ∈ a, treeB r o = true) ↔ ∀ o ∈ b, treeB r o = true)) : Tn k a = Tn k b := by
  unfold Tn
  refine List.filter_congr fun r hr => ?_
  rw [Bool.eq_iff_iff, List.all_eq_true, List.all_eq_true]
  exact h r (Row.mem.mp hr)
theorem Tn_three {k : Nat} {lot : List (List Nat)} (hr : ∀ r ∈ lot, Row k r) : Tn k (Tn k (Tn k lot)) = Tn k lot := Tn_congr fun r hrow => by
  constructor
  · exact fun h o ho => h o (Tn_two hr o ho)
  · intro h o ho
    have hm : r ∈ Tn k lot := mem_Tn.mpr ⟨hrow, h⟩
    obtain ⟨h1, h2⟩ := mem_Tn.mp ho
    rw [treeB_swap (by rw [h1.len, hrow.len])]
    exact h2 r hm
theorem Tn_unlike {k : Nat} {lot : List (List Nat)} {a b : List Nat} (ha : a ∈ lot) (hb : b ∈ lot) (h : topN 0 a ≠ topN 0 b) : Tn k lot = [] := by
  refine List.eq_nil_iff_forall_not_mem.mpr fun r hr => ?_
  obtain ⟨h1, h2⟩ := mem_Tn.mp hr
  have e1 := (treeB_iff.mp (h2 a ha)).1
  have e2 := (treeB_iff.mp (h2 b hb)).1
  omega
theorem Tn_nil {k : Nat} : Tn k [] = rowsN k := List.filter_eq_self.mpr fun r _ => rfl
end K15
namespace K15
open PySem L2 VL K01
/-- a comprehension, item by item -/
theorem v_lcG {α : Type} {f : D → M (Option D)} (g : α → D) (o : α → Option D) {m : MS} : ∀ {as : List α}, (∀ a ∈ as, Ev (f (g a)) m (o a) m) → Ev (lcL f (as.map g)) m (as.filterMap o) m
  | [], _ => rfl
  | a :: as, h => by
    have ih := v_lcG g o fun b hb => h b (List.mem_cons_of_mem _ hb)
    have h0 := h a List.mem_cons_self
    have e : (a :: as).filterMap o = lcC (o a) (as.filterMap o) := by
      cases z : o a with
      | none => rw [List.filterMap_cons_none z]; rfl
      | some d => rw [List.filterMap_cons_some z]; rfl
    rw [e]
    exact ev_bd h0 (ev_bd ih rfl)
theorem filterMap_if {α : Type} (g : α → D) (P : α → Bool) : ∀ as : List α, as.filterMap (fun a => if P a = true then some (g a) else none) = (as.filter P).map g
  | [] => rfl
  | a :: as => by
    cases z : P a with
    | true => rw [List.filterMap_cons_some (b := g a) (by rw [if_pos z]), List.filter_cons_of_pos z, filterMap_if g P as]; rfl
    | false => rw [List.filterMap_cons_none (by rw [if_neg (by rw [z]; exact Bool.false_ne_true)]), List.filter_cons_of_neg (by rw [z]; exact Bool.false_ne_true), filterMap_if g P as]
theorem v_lcFil {α : Type} {f : D → M (Option D)} (g : α → D) (P : α → Bool) {m : MS} {as : List α} (h : ∀ a ∈ as, (P a = true → Ev (f (g a)) m (some (g a)) m) ∧ (P a = false → Ev (f (g a)) m none m)) : Ev (lcL f (as.map g)) m ((as.filter P).map g) m := by
  rw [← filterMap_if]
  refine v_lcG g _ fun a ha => ?_
  cases z : P a with
  | true => exact (h a ha).1 z
  | false => exact (h a ha).2 z
def lotD (lot : List (List Nat)) : D := .tuple (lot.map rowD)
/-- the loop that sieves -/
theorem sieve {k : Nat} (hk : k < 8) {lot : List (List Nat)} (hr : ∀ r ∈ lot, Row k r) {A B : D} {F : SE → M Bool} {x4 : Option D} {m : MS}
    (hF : ∀ (a b : List Nat) (L : D) , Row k a → Row k b → Ev (F [some A, some B, some L, some (rowD b), some (rowD a)]) m (treeB a b) m) :
    ∃ x3 x4', Ev (forL (gNm 3) (sSetO 2 (lcF (iL seqL (eVar 2)) (gNm 4) F (eVar 4) [4])) (lot.map rowD) [some A, some B, some (.list ((rowsN k).map rowD)), none, x4]) m (.nx [some A, some B, some (.list ((Tn k lot).map rowD)), x3, x4']) m := by
  have l8 := rows_len8 k hk
  have gen : ∀ (ys : List (List Nat)) (left : List (List Nat)) (x3 x4 : Option D), (∀ r ∈ ys, Row k r) → (∀ r ∈ left, Row k r) → left.length ≤ 5000 →
      ∃ x3' x4', Ev (forL (gNm 3) (sSetO 2 (lcF (iL seqL (eVar 2)) (gNm 4) F (eVar 4) [4])) (ys.map rowD) [some A, some B, some (.list (left.map rowD)), x3, x4]) m (.nx [some A, some B, some (.list ((left.filter fun r => ys.all fun o => treeB r o).map rowD)), x3', x4']) m := by
    intro ys
    induction ys with
    | nil =>
      intro left x3 x4 _ _ _
      refine ⟨x3, x4, ?_⟩
      rw [show (left.filter fun r => ([] : List (List Nat)).all fun o => treeB r o) = left from List.filter_eq_self.mpr fun _ _ => rfl]
      rfl
    | cons o ys ih =>
      intro left x3 x4 h1 h2 h3
      have ho := h1 o List.mem_cons_self
      have hlc : Ev (lcL (lcStep (gNm 4) F (eVar 4) (wipeE [some A, some B, some (.list (left.map rowD)), some (rowD o), x4] [4])) (left.map rowD)) m ((left.filter fun r => treeB r o).map rowD) m :=
        v_lcFil rowD (fun r => treeB r o) fun a ha => ⟨fun z => v_stepT (v_gNm 4 _ _ m) (by have := hF a o (.list (left.map rowD)) (h2 a ha) ho; rw [z] at this; exact this) (v_var 4 rfl), fun z => v_stepF (v_gNm 4 _ _ m) (by have := hF a o (.list (left.map rowD)) (h2 a ha) ho; rw [z] at this; exact this)⟩
      have hlen : (left.filter fun r => treeB r o).length ≤ 5000 := Nat.le_trans (List.length_filter_le _ _) h3
      obtain ⟨y3, y4, hh⟩ := ih (left.filter fun r => treeB r o) (some (rowD o)) x4 (fun r hr => h1 r (List.mem_cons_of_mem _ hr)) (fun r hr => h2 r (List.mem_filter.mp hr).1) hlen
      refine ⟨y3, y4, ev_bd (v_gNm 3 _ _ m) (ev_bd (v_setO 2 (v_lc (v_iL (v_var 2 rfl) rfl) hlc (by rw [List.length_map]; show _ ≤ 16000000; omega)) (by show 2 < 5; decide)) ?_)⟩
      rw [List.filter_filter] at hh
      have e : (left.filter fun r => (o :: ys).all fun o => treeB r o) = left.filter fun a => (ys.all fun o => treeB a o) && treeB a o := List.filter_congr fun r _ => by
        rw [List.all_cons, Bool.and_comm]
      rw [e]
      exact hh
  exact gen lot (rowsN k) none x4 hr (fun r h => Row.mem.mp h) l8
theorem tup_of {k : Nat} (hk : k < 8) (lot : List (List Nat)) : (Tn k lot).length ≤ 5000 := Nat.le_trans (List.length_filter_le _ _) (rows_len8 k hk)
theorem turned_of_ev {k : Nat} (hk : k < 8) {lot : List (List Nat)} (hr : ∀ r ∈ lot, Row k r) {m : MS} : Ev (fn_turned_of [lotD lot, .int ((k + 1 : Nat) : Int)]) m (lotD (Tn k lot)) m := by
  obtain ⟨x3, x4, hl⟩ := sieve hk hr (A := lotD lot) (B := .int ((k + 1 : Nat) : Int)) (F := tV asB (eCall fn_has_tree (aC (eVar 4) (aC (eVar 3) aN)))) (x4 := none) (m := m)
    fun a b L ha hb => v_tV (v_call (v_aC (v_var 4 rfl) (v_aC (v_var 3 rfl) v_aN)) (has_tree_ev (ha.isP hk) (hb.isP hk) (by rw [ha.len, hb.len]))) rfl
  exact v_runR (v_sq (v_set 2 (v_call (v_aC (v_var 1 rfl) v_aN) (all_of_ev hk))) (v_sq (v_for (v_iL (v_var 0 rfl) rfl) hl) (v_ret (v_eL (v_aC (v_var 2 rfl) v_aN) rfl))))
theorem closed_of_ev {k : Nat} (hk : k < 8) {lot : List (List Nat)} (hr : ∀ r ∈ lot, Row k r) {m : MS} : Ev (fn_closed_of [lotD lot, .int ((k + 1 : Nat) : Int)]) m (lotD (Tn k (Tn k lot))) m :=
  v_runR (v_ret (v_call (v_aC (v_call (v_aC (v_var 0 rfl) (v_aC (v_var 1 rfl) v_aN)) (turned_of_ev hk hr)) (v_aC (v_var 1 rfl) v_aN)) (turned_of_ev hk fun r hr => (mem_Tn.mp hr).1)))
theorem met_all_ev {k : Nat} (hk : k < 8) {lot : List (List Nat)} (hr : ∀ r ∈ lot, Row k r) {m : MS} : Ev (fn__law_met_all [lotD lot, .int ((k + 1 : Nat) : Int)]) m (lotD (Tn k lot)) m := by
  obtain ⟨x3, x4, hl⟩ := sieve hk hr (A := lotD lot) (B := .int ((k + 1 : Nat) : Int)) (F := tV asB (eCall fn__law_meet (aC (eVar 3) (aC (eVar 4) aN)))) (x4 := none) (m := m)
    fun a b L ha hb => by
      rw [treeB_swap (by rw [ha.len, hb.len])]
      exact v_tV (v_call (v_aC (v_var 3 rfl) (v_aC (v_var 4 rfl) v_aN)) (meet_ev (hb.isP hk) (ha.isP hk) (by rw [ha.len, hb.len]))) rfl
  exact v_runR (v_sq (v_set 2 (v_call (v_aC (v_var 1 rfl) v_aN) (law_partings_ev hk))) (v_sq (v_for (v_iL (v_var 0 rfl) rfl) hl) (v_ret (v_eL (v_aC (v_var 2 rfl) v_aN) rfl))))
theorem met_allL_ev {k : Nat} (hk : k < 8) {lot : List (List Nat)} (hr : ∀ r ∈ lot, Row k r) {m : MS} : Ev (fn__law_met_allL [.list (lot.map rowD), .int ((k + 1 : Nat) : Int)]) m (lotD (Tn k lot)) m := by
  obtain ⟨x3, x4, hl⟩ := sieve hk hr (A := .list (lot.map rowD)) (B := .int ((k + 1 : Nat) : Int)) (F := tV asB (eCall fn__law_meet (aC (eVar 3) (aC (eVar 4) aN)))) (x4 := none) (m := m)
    fun a b L ha hb => by
      rw [treeB_swap (by rw [ha.len, hb.len])]
      exact v_tV (v_call (v_aC (v_var 3 rfl) (v_aC (v_var 4 rfl) v_aN)) (meet_ev (hb.isP hk) (ha.isP hk) (by rw [ha.len, hb.len]))) rfl
  exact v_runR (v_sq (v_set 2 (v_call (v_aC (v_var 1 rfl) v_aN) (law_partings_ev hk))) (v_sq (v_for (v_iL (v_var 0 rfl) rfl) hl) (v_ret (v_eL (v_aC (v_var 2 rfl) v_aN) rfl))))
end K15
namespace K15
open PySem L2 VL K01
/-! ### numbers -/
def wholeD : D → Bool
  | .int _ => true
  | _ => false
def withinD (lo hi : Int) : D → Bool
  | .int i => decide (lo ≤ i ∧ i ≤ hi)
  | _ => false
theorem whole_any {d : D} (h : okT d = true) {m : MS} : Ev (fn_is_whole [d]) m (.bool (wholeD d)) m := by
  cases d with
  | dict kvs => cases kvs with
    | nil => rfl
    | cons _ _ => cases h
  | _ => rfl
theorem within_any {d : D} (h : okT d = true) {lo hi : Int} {m : MS} : Ev (fn_is_within [d, .int lo, .int hi]) m (.bool (withinD lo hi d)) m := by
  refine v_runR (v_ret ?_)
  have hw := whole_any h (m := ms0)
  cases d with
  | int i =>
    refine v_eAndT (v_call (v_aC (v_var 0 rfl) v_aN) hw) ?_
    by_cases h1 : lo ≤ i
    · show Ev _ _ (PyData.bool (decide (lo ≤ i ∧ i ≤ hi))) _
      rw [show decide (lo ≤ i ∧ i ≤ hi) = decide (i ≤ hi) from decide_eq_decide.mpr ⟨fun z => z.2, fun z => ⟨h1, z⟩⟩]
      exact v_eB (v_c3T (v_var 1 rfl) (v_var 0 rfl) (leT h1) (v_var 2 rfl) rfl)
    · show Ev _ _ (PyData.bool (decide (lo ≤ i ∧ i ≤ hi))) _
      rw [decide_eq_false fun z => h1 z.1]
      exact v_eB (v_c3F (v_var 1 rfl) (v_var 0 rfl) (leF h1))
  | _ => exact v_eAndF (v_call (v_aC (v_var 0 rfl) v_aN) hw)
theorem need_number_T {d : D} (h : okT d = true) {lo hi : Int} (hw : withinD lo hi d = true) {m : MS} : Ev (fn_need_number [d, .int lo, .int hi]) m d m :=
  v_runR (v_sq (v_sIfF (v_not (o := true) (v_tV (v_call (v_aC (v_var 0 rfl) (v_aC (v_var 1 rfl) (v_aC (v_var 2 rfl) v_aN))) (within_any h)) (by rw [hw]; rfl))) v_nx) (v_ret (v_var 0 rfl)))
theorem need_number_F {d : D} (h : okT d = true) {lo hi : Int} (hw : withinD lo hi d = false) {m : MS} : Rx (fn_need_number [d, .int lo, .int hi]) m ⟨"BadNumber", [("value", d)]⟩ m :=
  r_run (r_sqL (r_ifT (v_not (o := false) (v_tV (v_call (v_aC (v_var 0 rfl) (v_aC (v_var 1 rfl) (v_aC (v_var 2 rfl) v_aN))) (within_any h)) (by rw [hw]; rfl))) (r_raise (v_aC (v_var 0 rfl) v_aN))))
/-! ### partings, or none -/
def pD : Int → List D → Bool
  | _, [] => true
  | k, .int i :: r => decide (0 ≤ i ∧ i ≤ k) && pD (max k (i + 1)) r
  | _, _ :: _ => false
def enumF (i : Nat) : List D → List D
  | [] => []
  | d :: r => .tuple [.int (i : Nat), d] :: enumF (i + 1) r
theorem enumF_eq : ∀ (ds : List D) (i : Nat), enumF i ds = (List.range' i ds.length).zipWith (fun i d => .tuple [.int (i : Nat), d]) ds
  | [], i => rfl
  | d :: r, i => by
    show _ :: enumF (i + 1) r = _
    rw [enumF_eq r (i + 1)]
    rfl
theorem enumD_F (ds : List D) : enumD ds = enumF 0 ds := by
  rw [enumF_eq]
  unfold enumD
  rw [List.range_eq_range']
theorem max2_int (k i : Int) : two2 max2D [.int k, .int i] = some (.int (max k i)) := by
  show some (PyData.int (if i > k then i else k)) = _
  congr 2
  split <;> omega
theorem np_loop {T : D} {m : MS} : ∀ (ds : List D) (i : Nat) (k : Int) (x2 x3 : Option D), (∀ d ∈ ds, okT d = true) →
    (pD k ds = true ∧ ∃ k' y2 y3, Ev (forL (gTp 2 (gC (gNm 2) (gC (gNm 3) gN0))) (sq (sIf (tNot1 (tV asB (eCall fn_is_within (aC (eVar 3) (aC (eC (.int 0)) (aC (eVar 1) aN)))))) (sRaise "BadParting" ["place"] (aC (eVar 2) aN)) sNx) (sSet 1 (eL (two2 max2D) (aC (eVar 1) (aC (e2 addD (eVar 3) (eC (.int 1))) aN))))) (enumF i ds) [some T, some (.int k), x2, x3]) m (.nx [some T, some (.int k'), y2, y3]) m) ∨
    (pD k ds = false ∧ ∃ pl, Rx (forL (gTp 2 (gC (gNm 2) (gC (gNm 3) gN0))) (sq (sIf (tNot1 (tV asB (eCall fn_is_within (aC (eVar 3) (aC (eC (.int 0)) (aC (eVar 1) aN)))))) (sRaise "BadParting" ["place"] (aC (eVar 2) aN)) sNx) (sSet 1 (eL (two2 max2D) (aC (eVar 1) (aC (e2 addD (eVar 3) (eC (.int 1))) aN))))) (enumF i ds) [some T, some (.int k), x2, x3]) m ⟨"BadParting", [("place", pl)]⟩ m)
  | [], i, k, x2, x3, _ => .inl ⟨rfl, k, x2, x3, rfl⟩
  | d :: r, i, k, x2, x3, h => by
    have hd := h d List.mem_cons_self
    have hw := within_any hd (lo := 0) (hi := k) (m := ms0)
    have tst : ∀ b, withinD 0 k d = b → Ev (tNot1 (tV asB (eCall fn_is_within (aC (eVar 3) (aC (eC (.int 0)) (aC (eVar 1) aN))))) [some T, some (.int k), some (.int (i : Nat)), some d]) m (!b) m := fun b hb =>
      v_not (v_tV (v_call (v_aC (v_var 3 rfl) (v_aC (v_c _) (v_aC (v_var 1 rfl) v_aN))) hw) (by rw [hb]; rfl))
    have bad : withinD 0 k d = false → ∃ pl, Rx (forL (gTp 2 (gC (gNm 2) (gC (gNm 3) gN0))) (sq (sIf (tNot1 (tV asB (eCall fn_is_within (aC (eVar 3) (aC (eC (.int 0)) (aC (eVar 1) aN)))))) (sRaise "BadParting" ["place"] (aC (eVar 2) aN)) sNx) (sSet 1 (eL (two2 max2D) (aC (eVar 1) (aC (e2 addD (eVar 3) (eC (.int 1))) aN))))) (enumF i (d :: r)) [some T, some (.int k), x2, x3]) m ⟨"BadParting", [("place", pl)]⟩ m := fun hb =>
      ⟨.int (i : Nat), rx_bd2 (v_gTp2 2 3 _ _ _ m) (rx_bd (r_sqL (r_ifT (tst false hb) (r_raise (v_aC (v_var 2 rfl) v_aN)))))⟩
    cases d with
    | int j =>
      by_cases hb : 0 ≤ j ∧ j ≤ k
      · have step : Ev (sq (sIf (tNot1 (tV asB (eCall fn_is_within (aC (eVar 3) (aC (eC (.int 0)) (aC (eVar 1) aN)))))) (sRaise "BadParting" ["place"] (aC (eVar 2) aN)) sNx) (sSet 1 (eL (two2 max2D) (aC (eVar 1) (aC (e2 addD (eVar 3) (eC (.int 1))) aN)))) [some T, some (.int k), some (.int (i : Nat)), some (.int j)]) m (.nx [some T, some (.int (max k (j + 1))), some (.int (i : Nat)), some (.int j)]) m :=
          v_sq (v_sIfF (tst true (decide_eq_true hb)) v_nx) (v_set 1 (v_eL (v_aC (v_var 1 rfl) (v_aC (v_e2 (v_var 3 rfl) (v_c _) rfl) v_aN)) (max2_int k (j + 1))))
        have e : pD k (.int j :: r) = pD (max k (j + 1)) r := by
          show (decide (0 ≤ j ∧ j ≤ k) && _) = _
          rw [decide_eq_true hb, Bool.true_and]
        rw [e]
        rcases np_loop r (i + 1) (max k (j + 1)) (some (.int (i : Nat))) (some (.int j)) fun d hd => h d (List.mem_cons_of_mem _ hd) with ⟨g1, k', y2, y3, g2⟩ | ⟨g1, pl, g2⟩
        · exact .inl ⟨g1, k', y2, y3, ev_bd (v_gTp2 2 3 _ _ _ m) (ev_bd step g2)⟩
        · exact .inr ⟨g1, pl, rx_bd2 (v_gTp2 2 3 _ _ _ m) (rx_bd2 step g2)⟩
      · refine .inr ⟨?_, bad (decide_eq_false hb)⟩
        show (decide (0 ≤ j ∧ j ≤ k) && _) = _
        rw [decide_eq_false hb, Bool.false_and]
    | _ => exact .inr ⟨rfl, bad rfl⟩
def isPD : D → Bool
  | .tuple ds => decide (1 ≤ ds.length ∧ ds.length ≤ 60) && pD 0 ds
  | _ => false
def okP : D → Bool
  | .tuple ds => ds.all okT
  | d => okT d
theorem np_any {d : D} (h : okP d = true) {m : MS} : (isPD d = true ∧ Ev (fn_need_parting [d]) m d m) ∨ (isPD d = false ∧ ∃ pl, Rx (fn_need_parting [d]) m ⟨"BadParting", [("place", pl)]⟩ m) := by
  have nt : d.isTuple = false → okT d = true → ∃ pl, Rx (fn_need_parting [d]) m ⟨"BadParting", [("place", pl)]⟩ m := fun h1 h2 =>
    ⟨.none, r_run (r_sqL (r_ifT (v_orT (v_not (o := false) (v_tV (v_e1 (v_var 0 rfl) (by show (if okT d = true then some (PyData.bool d.isTuple) else none) = _; rw [if_pos h2, h1])) rfl))) (r_raise (v_aC (v_c _) v_aN))))⟩
  cases d with
  | tuple ds =>
    have isT1 : Ev (tNot1 (tV truD (e1 (isT "tuple") (eVar 0))) (env0 4 [.tuple ds])) m false m := v_not (o := true) (v_tV (v_e1 (v_var 0 rfl) rfl) rfl)
    have lenE : Ev (eL (one1 lenD) (aC (eVar 0) aN) (env0 4 [.tuple ds])) m (.int (ds.length : Nat)) m := v_eL (v_aC (v_var 0 rfl) v_aN) rfl
    by_cases hl : 1 ≤ ds.length ∧ ds.length ≤ 60
    · have cond : Ev (sIf (tOr2 (tNot1 (tV truD (e1 (isT "tuple") (eVar 0)))) (tNot1 (e3c leD leD (eC (.int 1)) (eL (one1 lenD) (aC (eVar 0) aN)) (eC (.int 60))))) (sRaise "BadParting" ["place"] (aC (eC .none) aN)) sNx (env0 4 [.tuple ds])) m (.nx (env0 4 [.tuple ds])) m :=
        v_sIfF (v_orF isT1 (v_not (o := true) (v_c3T (v_c _) lenE (leT (by omega)) (v_c _) (leT (by omega))))) v_nx
      have ie : Ev (iA (enB false) (aC (eVar 0) aN) [some (.tuple ds), some (.int 0), none, none]) m (enumF 0 ds) m := v_iA (v_aC (v_var 0 rfl) v_aN) (by rw [← enumD_F]; rfl)
      have hall : ∀ d ∈ ds, okT d = true := List.all_eq_true.mp h
      rcases np_loop (T := .tuple ds) (m := m) ds 0 0 none none hall with ⟨g1, k', y2, y3, g2⟩ | ⟨g1, pl, g2⟩
      · exact .inl ⟨by show (decide _ && _) = _; rw [decide_eq_true hl, g1]; rfl, v_runR (v_sq cond (v_sq (v_set 1 (v_c _)) (v_sq (v_for ie g2) (v_ret (v_var 0 rfl)))))⟩
      · exact .inr ⟨by show (decide _ && _) = _; rw [g1, Bool.and_false], pl, r_run (r_sq cond (r_sq (v_set 1 (v_c _)) (r_sqL (r_for ie g2))))⟩
    · refine .inr ⟨by show (decide _ && _) = _; rw [decide_eq_false hl, Bool.false_and], .none, r_run (r_sqL (r_ifT (v_orF isT1 (v_not (o := false) ?_)) (r_raise (v_aC (v_c _) v_aN))))⟩
      by_cases h1 : 1 ≤ ds.length
      · exact v_c3T (v_c _) lenE (leT (by omega)) (v_c _) (leF (by omega))
      · exact v_c3F (v_c _) lenE (leF (by omega))
  | dict kvs => exact .inr ⟨rfl, nt rfl h⟩
  | list xs => exact .inr ⟨rfl, nt rfl h⟩
  | none => exact .inr ⟨rfl, nt rfl h⟩
  | bool b => exact .inr ⟨rfl, nt rfl h⟩
  | int i => exact .inr ⟨rfl, nt rfl h⟩
  | str x => exact .inr ⟨rfl, nt rfl h⟩
theorem is_parting_any {d : D} (h : okP d = true) {m : MS} : Ev (fn_is_parting [d]) m (.bool (isPD d)) m := by
  rcases np_any h (m := ms0) with ⟨g1, g2⟩ | ⟨g1, pl, g2⟩
  · rw [g1]
    exact v_runR (v_sq (v_tryN (v_drop (v_callX (v_aC (v_var 0 rfl) v_aN) g2))) (v_ret (v_c _)))
  · rw [g1]
    exact v_runR (v_sqR (v_tryX (r_drop (r_callX (v_aC (v_var 0 rfl) v_aN) g2)) (show ("BadParting" : Str) ∈ errs by decide) (v_hR (show ("BadParting" : Str) ∈ [("BadParting" : Str)] by decide) rfl)))
theorem pD_nat : ∀ (p : List Nat) (k : Nat), rg k p → pD (k : Nat) (natD p) = true
  | [], _, _ => rfl
  | b :: p, k, ⟨h1, h2⟩ => by
    show (decide (0 ≤ (b : Int) ∧ (b : Int) ≤ (k : Int)) && pD (max (k : Int) ((b : Int) + 1)) (natD p)) = true
    rw [decide_eq_true (by omega), Bool.true_and, show max (k : Int) ((b : Int) + 1) = ((max k (b + 1) : Nat) : Int) by omega]
    exact pD_nat p _ h2
theorem okT_nat (p : List Nat) : okP (.tuple (natD p)) = true := List.all_eq_true.mpr fun d hd => by
  obtain ⟨b, _, rfl⟩ := List.mem_map.mp hd
  rfl
theorem isPD_row {p : List Nat} (h : IsP p) : isPD (.tuple (natD p)) = true := by
  show (decide (1 ≤ (natD p).length ∧ (natD p).length ≤ 60) && pD 0 (natD p)) = true
  rw [natD_len, decide_eq_true ⟨h.l1, h.l2⟩, Bool.true_and]
  exact pD_nat p 0 h.g
end K15
namespace K15
open PySem L2 VL K01
abbrev BL : SE → M Ctl := (sq (sIf (tOr2 (tNot1 (tV asB (eCall fn_is_parting (aC (eVar 3) aN)))) (tV asB (e2 neD (eL (one1 lenD) (aC (eVar 3) aN)) (eVar 1)))) (sRet (eC (.str "parting"))) sNx) (sq (sIf (tV asB (e2 leTD (eVar 3) (eVar 2))) (sRet (eC (.str "order"))) sNx) (sSet 2 (eVar 3))))
def Up (k : Nat) : List Nat → List (List Nat) → Prop
  | _, [] => True
  | bf, r :: rs => Row k r ∧ leN r bf = false ∧ Up k r rs
def lastR : List Nat → List (List Nat) → List Nat
  | bf, [] => bf
  | _, r :: rs => lastR r rs
theorem lastR_snoc : ∀ (rs : List (List Nat)) (bf r : List Nat), lastR bf (rs ++ [r]) = r
  | [], _, _ => rfl
  | x :: rs, _, r => lastR_snoc rs x r
theorem lastR_mem : ∀ (rs : List (List Nat)) (bf : List Nat), rs ≠ [] → lastR bf rs ∈ rs
  | [], _, h => absurd rfl h
  | [x], _, _ => List.mem_cons_self
  | x :: y :: rs, _, _ => List.mem_cons_of_mem _ (lastR_mem (y :: rs) x (fun z => by cases z))
section
variable {k : Nat} (hk : k < 6)
include hk
theorem up_lot : ∀ {lot : List (List Nat)} {bf : List Nat}, Lot k lot → (bf = [] ∨ (Row k bf ∧ ∀ r ∈ lot, code bf < code r)) → Up k bf lot
  | [], _, _, _ => trivial
  | r :: rs, bf, h, hb => by
    have hr := h.row r List.mem_cons_self
    obtain ⟨a1, a2⟩ := List.pairwise_cons.mp h.asc
    refine ⟨hr, ?_, up_lot ⟨fun x hx => h.row x (List.mem_cons_of_mem _ hx), a2⟩ (.inr ⟨hr, a1⟩)⟩
    rcases hb with rfl | ⟨b1, b2⟩
    · exact leN_nil (by rw [hr.len]; omega)
    · rw [leN_code (by rw [hr.len, b1.len]) (hr.small (by omega)) (b1.small (by omega))]
      have := b2 r List.mem_cons_self
      exact decide_eq_false (by omega)
theorem part_row {L : D} {bf r : List Nat} (hr : Row k r) {m : MS} : Ev (sIf (tOr2 (tNot1 (tV asB (eCall fn_is_parting (aC (eVar 3) aN)))) (tV asB (e2 neD (eL (one1 lenD) (aC (eVar 3) aN)) (eVar 1)))) (sRet (eC (.str "parting"))) sNx [some L, some (.int ((k + 1 : Nat) : Int)), some (rowD bf), some (rowD r)]) m (.nx [some L, some (.int ((k + 1 : Nat) : Int)), some (rowD bf), some (rowD r)]) m := by
  have hp := is_parting_any (okT_nat r) (m := ms0)
  rw [isPD_row (hr.isP (by omega))] at hp
  refine v_sIfF (v_orF (v_not (o := true) (v_tV (v_call (v_aC (v_var 3 rfl) v_aN) hp) rfl)) (v_tV (v_e2 (v_eL (v_aC (v_var 3 rfl) v_aN) (lenT r)) (v_var 1 rfl) (neF (by rw [hr.len]))) rfl)) v_nx
theorem lf_pass {L : D} {bf r : List Nat} (hr : Row k r) (hle : leN r bf = false) {m : MS} : Ev (BL [some L, some (.int ((k + 1 : Nat) : Int)), some (rowD bf), some (rowD r)]) m (.nx [some L, some (.int ((k + 1 : Nat) : Int)), some (rowD r), some (rowD r)]) m :=
  v_sq (part_row hk hr) (v_sq (v_sIfF (v_tV (v_e2 (v_var 3 rfl) (v_var 2 rfl) (by rw [leTD_row, hle])) rfl) v_nx) (v_set 2 (v_var 3 rfl)))
theorem lf_order {L : D} {bf r : List Nat} (hr : Row k r) (hle : leN r bf = true) {m : MS} : Ev (BL [some L, some (.int ((k + 1 : Nat) : Int)), some (rowD bf), some (rowD r)]) m (.rt (.str "order")) m :=
  v_sq (part_row hk hr) (v_sqR (v_sIfT (v_tV (v_e2 (v_var 3 rfl) (v_var 2 rfl) (by rw [leTD_row, hle])) rfl) (v_ret (v_c _))))
omit hk in
theorem lf_part {L b : D} {d : D} (hd : okP d = true) (hb : isPD d = false ∨ ∃ ds, d = .tuple ds ∧ ds.length ≠ k + 1) {m : MS} : Ev (BL [some L, some (.int ((k + 1 : Nat) : Int)), some b, some d]) m (.rt (.str "parting")) m := by
  have hp := is_parting_any hd (m := ms0)
  cases e : isPD d with
  | false =>
    rw [e] at hp
    exact v_sqR (v_sIfT (v_orT (v_not (o := false) (v_tV (v_call (v_aC (v_var 3 rfl) v_aN) hp) rfl))) (v_ret (v_c _)))
  | true =>
    rw [e] at hp
    rcases hb with q | ⟨ds, rfl, hl⟩
    · rw [e] at q; cases q
    · exact v_sqR (v_sIfT (v_orF (v_not (o := true) (v_tV (v_call (v_aC (v_var 3 rfl) v_aN) hp) rfl)) (v_tV (v_e2 (v_eL (v_aC (v_var 3 rfl) v_aN) (show one1 lenD [.tuple ds] = some (.int (ds.length : Nat)) from rfl)) (v_var 1 rfl) (neT (by omega))) rfl)) (v_ret (v_c _)))
theorem lf_rows {L : D} {m : MS} : ∀ (rows : List (List Nat)) (bf : List Nat) (x3 : Option D), Up k bf rows → ∃ x3', ∀ (rest : List D) (out : Ctl), Ev (forL (gNm 3) BL rest [some L, some (.int ((k + 1 : Nat) : Int)), some (rowD (lastR bf rows)), x3']) m out m →
    Ev (forL (gNm 3) BL (rows.map rowD ++ rest) [some L, some (.int ((k + 1 : Nat) : Int)), some (rowD bf), x3]) m out m
  | [], bf, x3, _ => ⟨x3, fun rest out h => h⟩
  | r :: rows, bf, x3, ⟨h1, h2, h3⟩ => by
    obtain ⟨y3, hy⟩ := lf_rows rows r (some (rowD r)) h3
    exact ⟨y3, fun rest out h => ev_bd (v_gNm 3 _ _ m) (ev_bd (lf_pass hk h1 h2) (hy rest out h))⟩
omit hk in
theorem lf_head {xs : List D} {m : MS} {out : D} (h : (∃ e, Ev (forL (gNm 3) BL xs [some (.tuple xs), some (.int ((k + 1 : Nat) : Int)), some (rowD []), none]) m (.nx e) m) ∧ out = .none ∨ Ev (forL (gNm 3) BL xs [some (.tuple xs), some (.int ((k + 1 : Nat) : Int)), some (rowD []), none]) m (.rt out) m) : Ev (fn_lot_fault [.tuple xs, .int ((k + 1 : Nat) : Int)]) m out m := by
  have c1 : Ev (sIf (tNot1 (tV truD (e1 (isT "tuple") (eVar 0)))) (sRet (eC (.str "tuple"))) sNx (env0 4 [.tuple xs, .int ((k + 1 : Nat) : Int)])) m (.nx (env0 4 [.tuple xs, .int ((k + 1 : Nat) : Int)])) m :=
    v_sIfF (v_not (o := true) (v_tV (v_e1 (v_var 0 rfl) rfl) rfl)) v_nx
  rcases h with ⟨⟨e, h⟩, rfl⟩ | h
  · exact v_runR (v_sq c1 (v_sq (v_set 2 (v_eL v_aN rfl)) (v_sq (v_for (v_iL (v_var 0 rfl) rfl) h) (v_ret (v_c _)))))
  · exact v_runR (v_sq c1 (v_sq (v_set 2 (v_eL v_aN rfl)) (v_sqR (v_for (v_iL (v_var 0 rfl) rfl) h))))
theorem fault_ok {lot : List (List Nat)} (h : Lot k lot) {m : MS} : Ev (fn_lot_fault [lotD lot, .int ((k + 1 : Nat) : Int)]) m .none m := by
  obtain ⟨x3, hx⟩ := lf_rows hk (L := lotD lot) (m := m) lot [] none (up_lot hk h (.inl rfl))
  have := hx [] _ rfl
  rw [List.append_nil] at this
  exact lf_head (.inl ⟨⟨_, this⟩, rfl⟩)
theorem fault_part {rows : List (List Nat)} (h : Up k [] rows) {d : D} (rest : List D) (hd : okP d = true) (hb : isPD d = false ∨ ∃ ds, d = .tuple ds ∧ ds.length ≠ k + 1) {m : MS} : Ev (fn_lot_fault [.tuple (rows.map rowD ++ d :: rest), .int ((k + 1 : Nat) : Int)]) m (.str "parting") m := by
  obtain ⟨x3, hx⟩ := lf_rows hk (L := .tuple (rows.map rowD ++ d :: rest)) (m := m) rows [] none h
  exact lf_head (.inr (hx (d :: rest) _ (ev_bd (v_gNm 3 _ _ m) (ev_bd (lf_part hd hb) rfl))))
theorem fault_order {rows : List (List Nat)} (h : Up k [] rows) {r : List Nat} (rest : List D) (hr : Row k r) (hle : leN r (lastR [] rows) = true) {m : MS} : Ev (fn_lot_fault [.tuple (rows.map rowD ++ rowD r :: rest), .int ((k + 1 : Nat) : Int)]) m (.str "order") m := by
  obtain ⟨x3, hx⟩ := lf_rows hk (L := .tuple (rows.map rowD ++ rowD r :: rest)) (m := m) rows [] none h
  exact lf_head (.inr (hx (rowD r :: rest) _ (ev_bd (v_gNm 3 _ _ m) (ev_bd (lf_order hk hr hle) rfl))))
omit hk in
theorem fault_tuple {d n : D} (h : okT d = true) (ht : d.isTuple = false) {m : MS} : Ev (fn_lot_fault [d, n]) m (.str "tuple") m :=
  v_runR (v_sqR (v_sIfT (v_not (o := false) (v_tV (v_e1 (v_var 0 rfl) (by show (if okT d = true then some (PyData.bool d.isTuple) else none) = _; rw [if_pos h, ht])) rfl)) (v_ret (v_c _))))
/-! ### need_lot and what asks it -/
theorem num_ok {m : MS} : Ev (fn_need_number [.int ((k + 1 : Nat) : Int), .int 1, .int 6]) m (.int ((k + 1 : Nat) : Int)) m :=
  need_number_T (d := .int ((k + 1 : Nat) : Int)) rfl (show decide ((1 : Int) ≤ ((k + 1 : Nat) : Int) ∧ ((k + 1 : Nat) : Int) ≤ 6) = true from decide_eq_true (by omega))
theorem need_lot_T {lot : List (List Nat)} (h : Lot k lot) {m : MS} : Ev (fn_need_lot [lotD lot, .int ((k + 1 : Nat) : Int)]) m (lotD lot) m :=
  v_runR (v_sq (v_drop (v_callX (v_aC (v_var 1 rfl) (v_aC (v_c _) (v_aC (v_c _) v_aN))) (num_ok hk))) (v_sq (v_set 2 (v_call (v_aC (v_var 0 rfl) (v_aC (v_var 1 rfl) v_aN)) (fault_ok hk h))) (v_sq (v_sIfF (v_tV (v_e2 (v_var 2 rfl) (v_c _) rfl) rfl) v_nx) (v_ret (v_var 0 rfl)))))
theorem need_lot_F {L : D} {w : Str} (h : Ev (fn_lot_fault [L, .int ((k + 1 : Nat) : Int)]) ms0 (.str w) ms0) {m : MS} : Rx (fn_need_lot [L, .int ((k + 1 : Nat) : Int)]) m ⟨"BadLot", [("word", .str w)]⟩ m :=
  r_run (r_sq (v_drop (v_callX (v_aC (v_var 1 rfl) (v_aC (v_c _) (v_aC (v_c _) v_aN))) (num_ok hk))) (r_sq (v_set 2 (v_call (v_aC (v_var 0 rfl) (v_aC (v_var 1 rfl) v_aN)) h)) (r_sqL (r_ifT (v_tV (v_e2 (v_var 2 rfl) (v_c _) rfl) rfl) (r_raise (v_aC (v_var 2 rfl) v_aN))))))
omit hk in
theorem need_lot_N {L n : D} (h : okT n = true) (hw : withinD 1 6 n = false) {m : MS} : Rx (fn_need_lot [L, n]) m ⟨"BadNumber", [("value", n)]⟩ m :=
  r_run (r_sqL (r_drop (r_callX (v_aC (v_var 1 rfl) (v_aC (v_c _) (v_aC (v_c _) v_aN))) (need_number_F h hw))))
omit hk in
theorem turned_X {L n : D} {x : Exn} (h : Rx (fn_need_lot [L, n]) ms0 x ms0) {m : MS} : Rx (fn_turned [L, n]) m x m := r_run (r_ret (r_args (r_aC (r_callX (v_aC (v_var 0 rfl) (v_aC (v_var 1 rfl) v_aN)) h))))
omit hk in
theorem closed_X {L n : D} {x : Exn} (h : Rx (fn_need_lot [L, n]) ms0 x ms0) {m : MS} : Rx (fn_closed [L, n]) m x m := r_run (r_ret (r_args (r_aC (r_callX (v_aC (v_var 0 rfl) (v_aC (v_var 1 rfl) v_aN)) h))))
omit hk in
theorem is_closed_X {L n : D} {x : Exn} (h : Rx (fn_need_lot [L, n]) ms0 x ms0) {m : MS} : Rx (fn_is_closed [L, n]) m x m := r_run (r_ret (r_e2 (r_args (r_aC (r_callX (v_aC (v_var 0 rfl) (v_aC (v_var 1 rfl) v_aN)) h)))))
theorem turned_ev {lot : List (List Nat)} (h : Lot k lot) {m : MS} : Ev (fn_turned [lotD lot, .int ((k + 1 : Nat) : Int)]) m (lotD (Tn k lot)) m :=
  v_runR (v_ret (v_call (v_aC (v_callX (v_aC (v_var 0 rfl) (v_aC (v_var 1 rfl) v_aN)) (need_lot_T hk h)) (v_aC (v_var 1 rfl) v_aN)) (turned_of_ev (by omega) h.row)))
theorem closed_ev {lot : List (List Nat)} (h : Lot k lot) {m : MS} : Ev (fn_closed [lotD lot, .int ((k + 1 : Nat) : Int)]) m (lotD (Tn k (Tn k lot))) m :=
  v_runR (v_ret (v_call (v_aC (v_callX (v_aC (v_var 0 rfl) (v_aC (v_var 1 rfl) v_aN)) (need_lot_T hk h)) (v_aC (v_var 1 rfl) v_aN)) (closed_of_ev (by omega) h.row)))
end
/-! ### lots compared -/
theorem lot_shaped {lot : List (List Nat)} : SeqAt.shaped (lotD lot) = true := by
  unfold SeqAt.shaped
  have key : ∀ p : List Nat, PyData.canLayAll0 (natD p) = true ∧ PyData.depthAll (natD p) ≤ 1 := by
    intro p
    induction p with
    | nil => exact ⟨by simp [natD, PyData.canLayAll0], by simp [natD, PyData.depthAll]⟩
    | cons b p ih =>
      have e : natD (b :: p) = .int (b : Nat) :: natD p := rfl
      rw [e]
      exact ⟨by simp [PyData.canLayAll0, PyData.canLay0, ih.1], by have := ih.2; simp only [PyData.depthAll, PyData.depth]; omega⟩
  have key2 : ∀ l : List (List Nat), PyData.canLayAll0 (l.map rowD) = true ∧ PyData.depthAll (l.map rowD) ≤ 5 := by
    intro l
    induction l with
    | nil => exact ⟨by simp [PyData.canLayAll0], by simp [PyData.depthAll]⟩
    | cons r l ih =>
      have h := key r
      rw [List.map_cons]
      refine ⟨by simp [PyData.canLayAll0, rowD, PyData.canLay0, ih.1, h.1], ?_⟩
      have h2 := h.2
      have i2 := ih.2
      simp only [PyData.depthAll, rowD, PyData.depth]
      omega
  have h := key2 lot
  rw [Bool.and_eq_true]
  refine ⟨by simp [lotD, PyData.canLay0, h.1], decide_eq_true ?_⟩
  have := h.2
  simp only [lotD, PyData.depth]
  omega
theorem eqvAll_rows : ∀ a b : List (List Nat), PyData.eqvAll (a.map rowD) (b.map rowD) = decide (a = b)
  | [], [] => by simp [PyData.eqvAll]
  | [], y :: b => by simp [PyData.eqvAll]
  | x :: a, [] => by simp [PyData.eqvAll]
  | x :: a, y :: b => by
    rw [List.map_cons, List.map_cons]
    simp only [PyData.eqvAll]
    rw [eqvAll_rows a b, eqv_row]
    by_cases h : x = y <;> by_cases h' : a = b <;> simp [h, h']
theorem eqD_lot (a b : List (List Nat)) : eqD (lotD a) (lotD b) = some (.bool (decide (a = b))) := by
  unfold eqD
  rw [lot_shaped, lot_shaped]
  show some (PyData.bool (PyData.eqv (.tuple _) (.tuple _))) = _
  simp only [PyData.eqv]
  rw [eqvAll_rows]
theorem is_closed_ev {k : Nat} (hk : k < 6) {lot : List (List Nat)} (h : Lot k lot) {m : MS} : Ev (fn_is_closed [lotD lot, .int ((k + 1 : Nat) : Int)]) m (.bool (decide (Tn k (Tn k lot) = lot))) m :=
  v_runR (v_ret (v_e2 (v_call (v_aC (v_callX (v_aC (v_var 0 rfl) (v_aC (v_var 1 rfl) v_aN)) (need_lot_T hk h)) (v_aC (v_var 1 rfl) v_aN)) (closed_of_ev (by omega) h.row)) (v_var 0 rfl) (eqD_lot _ _)))
/-! ### asked -/
theorem okE : ("BadNumber" : Str) ∈ errs ∧ ("BadLot" : Str) ∈ errs := by decide
theorem fnD_at {i : Nat} (hi : i < 4) : ixD (.list [fnD "need_lot", fnD "turned", fnD "closed", fnD "is_closed"]) (.int (i : Nat)) = some ([fnD "need_lot", fnD "turned", fnD "closed", fnD "is_closed"].getD i .none) := by
  match i, hi with
  | 0, _ => rfl
  | 1, _ => rfl
  | 2, _ => rfl
  | 3, _ => rfl
theorem tab_at {i : Nat} (hi : i < 4) {L n : D} {x : Exn} (h : Rx (fn_need_lot [L, n]) ms0 x ms0) : ∃ Fn, tabD tab__law_asked ([fnD "need_lot", fnD "turned", fnD "closed", fnD "is_closed"].getD i .none) = some Fn ∧ Rx (Fn [L, n]) ms0 x ms0 := by
  match i, hi with
  | 0, _ => exact ⟨fn_need_lot, by rfl, h⟩
  | 1, _ => exact ⟨fn_turned, by rfl, turned_X h⟩
  | 2, _ => exact ⟨fn_closed, by rfl, closed_X h⟩
  | 3, _ => exact ⟨fn_is_closed, by rfl, is_closed_X h⟩
theorem asked_pre {i : Nat} (hi : i < 4) {L n : D} {m : MS} {out : D}
    (h : Ev (sTry errs [⟨["BadLot"], some 5, (exS 4 (exT (exA (exC (.str "lot")) (exA (exF "BadLot" "word") exN))))⟩, ⟨["BadNumber"], some 5, (exS 4 (exT (exA (exC (.str "number")) (exA (exF "BadNumber" "value") exN))))⟩] (sSet 4 (eL mkT (aC (eC (.str "let")) (aC (eCallV tab__law_asked 3 (aC (eVar 1) (aC (eVar 2) aN))) aN)))) [some (.int (i : Nat)), some L, some n, some ([fnD "need_lot", fnD "turned", fnD "closed", fnD "is_closed"].getD i .none), some (.tuple []), none]) m (.nx [some (.int (i : Nat)), some L, some n, some ([fnD "need_lot", fnD "turned", fnD "closed", fnD "is_closed"].getD i .none), some out, none]) m) :
    Ev (fn__law_asked [.int (i : Nat), L, n]) m out m :=
  v_runR (v_sq (v_set 3 (v_e2 (v_eL (v_aC (v_c _) (v_aC (v_c _) (v_aC (v_c _) (v_aC (v_c _) v_aN)))) rfl) (v_var 0 rfl) (fnD_at hi))) (v_sq (v_set 4 (v_eL v_aN rfl)) (v_sq h (v_ret (v_var 4 rfl)))))
theorem asked_num {i : Nat} (hi : i < 4) {L n : D} (h : okT n = true) (hw : withinD 1 6 n = false) {m : MS} : Ev (fn__law_asked [.int (i : Nat), L, n]) m (.tuple [.str "number", n]) m := by
  obtain ⟨Fn, h1, h2⟩ := tab_at hi (need_lot_N (L := L) h hw (m := ms0))
  refine asked_pre hi (v_tryX (r_set 4 (rx_bd (r_aC2 (v_c _) (r_aC (r_callV rfl h1 (v_aC (v_var 1 rfl) (v_aC (v_var 2 rfl) v_aN)) h2))))) okE.1 (v_hN (show ("BadNumber" : Str) ∉ [("BadLot" : Str)] by decide) (v_hS (i := 4) (d := .tuple [.str "number", n]) (show ("BadNumber" : Str) ∈ [("BadNumber" : Str)] by decide) ?_ rfl)))
  rfl
theorem asked_lot {i : Nat} (hi : i < 4) {k : Nat} (hk : k < 6) {L : D} {w : Str} (h : Ev (fn_lot_fault [L, .int ((k + 1 : Nat) : Int)]) ms0 (.str w) ms0) {m : MS} : Ev (fn__law_asked [.int (i : Nat), L, .int ((k + 1 : Nat) : Int)]) m (.tuple [.str "lot", .str w]) m := by
  obtain ⟨Fn, h1, h2⟩ := tab_at hi (need_lot_F hk h (m := ms0))
  refine asked_pre hi (v_tryX (r_set 4 (rx_bd (r_aC2 (v_c _) (r_aC (r_callV rfl h1 (v_aC (v_var 1 rfl) (v_aC (v_var 2 rfl) v_aN)) h2))))) okE.2 (v_hS (i := 4) (d := .tuple [.str "lot", .str w]) (show ("BadLot" : Str) ∈ [("BadLot" : Str)] by decide) ?_ rfl))
  rfl
theorem asked_let {k : Nat} (hk : k < 6) {lot : List (List Nat)} (h : Lot k lot) {m : MS} : Ev (fn__law_asked [.int ((0 : Nat) : Int), lotD lot, .int ((k + 1 : Nat) : Int)]) m (.tuple [.str "let", lotD lot]) m :=
  asked_pre (i := 0) (by decide) (v_tryN (v_set 4 (v_eL (v_aC (v_c _) (v_aC (v_callV (Fn := fn_need_lot) rfl rfl (v_aC (v_var 1 rfl) (v_aC (v_var 2 rfl) v_aN)) (need_lot_T hk h)) v_aN)) rfl)))
end K15
namespace K15
open PySem L2 VL K01
/-! ### drawing -/
theorem ix_get {xs : List D} {j : Nat} (h : j < xs.length) : ixD (.list xs) (.int (j : Nat)) = some xs[j] ∧ ixD (.tuple xs) (.int (j : Nat)) = some xs[j] :=
  ⟨atI_nat (List.getElem?_eq_getElem h), atI_nat (List.getElem?_eq_getElem h)⟩
theorem of_list {xs : List D} {m : MS} {b : Nat} (h : Mk m b) (hb : b < 100000) (h0 : 0 < xs.length) (h1 : xs.length < 100000) : ∃ (j : Nat) (hj : j < xs.length) (m' : MS), Ev (fn__law_of [.list xs]) m xs[j] m' ∧ Mk m' (b + 1) := by
  obtain ⟨v, m', e, hv, hm⟩ := draw_nat h (by omega) h0 (by omega)
  exact ⟨v, hv, m', v_runR (v_ret (v_e2 (v_var 1 rfl) (v_callM (v_aC (v_eL (v_aC (v_var 1 rfl) v_aN) rfl) v_aN) e) (ix_get hv).1)), hm⟩
theorem of_tup {xs : List D} {m : MS} {b : Nat} (h : Mk m b) (hb : b < 100000) (h0 : 0 < xs.length) (h1 : xs.length < 100000) : ∃ (j : Nat) (hj : j < xs.length) (m' : MS), Ev (fn__law_of [.tuple xs]) m xs[j] m' ∧ Mk m' (b + 1) := by
  obtain ⟨v, m', e, hv, hm⟩ := draw_nat h (by omega) h0 (by omega)
  exact ⟨v, hv, m', v_runR (v_ret (v_e2 (v_var 1 rfl) (v_callM (v_aC (v_eL (v_aC (v_var 1 rfl) v_aN) rfl) v_aN) e) (ix_get hv).2)), hm⟩
theorem of_row {rows : List (List Nat)} {m : MS} {b : Nat} (h : Mk m b) (hb : b < 100000) (h0 : 0 < rows.length) (h1 : rows.length < 100000) : ∃ r ∈ rows, ∃ m', Ev (fn__law_of [lotD rows]) m (rowD r) m' ∧ Mk m' (b + 1) := by
  obtain ⟨j, hj, m', e, hm⟩ := of_tup (xs := rows.map rowD) h hb (by rw [List.length_map]; exact h0) (by rw [List.length_map]; exact h1)
  rw [List.getElem_map] at e
  exact ⟨_, List.getElem_mem _, m', e, hm⟩
theorem parting_ev {k : Nat} (hk : k < 8) {m : MS} {b : Nat} (hm : Mk m b) (hb : b < 50000) : ∃ p m', Ev (fn__law_parting [.int ((k + 1 : Nat) : Int)]) m (rowD p) m' ∧ Row k p ∧ Mk m' (b + (k + 1)) := by
  have hlr : (rngI 0 (k + 1)).length = k + 1 := rngI_len
  obtain ⟨vs, m2, e2, hl, _, k2⟩ := draws_ev (P := fun _ => True) (c := 1) (f := lcStep (gNm 2) tYs (eCallM fn__law_draw (aC (eVar 1) aN)) (wipeE [none, some (.int ((k + 1 : Nat) : Int)), none] [2]))
    (fun d m b hm hb => by
      obtain ⟨w, m', q1, q2, q3, q4⟩ := draw_ev (L := ((k + 1 : Nat) : Int)) hm (by omega) (by omega) (by omega)
      exact ⟨w, m', v_stepT (v_gNm 2 _ _ m) (v_tYs _ m) (v_callM (v_aC (v_var 1 rfl) v_aN) q1), trivial, q4⟩) (by decide) (rngI 0 (k + 1)) m b hm (by rw [hlr]; omega)
  rw [hlr] at hl k2
  have hkk : (vs.map fun i => (Sum.inl i : Key)).length = k + 1 := by rw [List.length_map, hl]
  have hp := isP_num (xs := vs.map fun i => (Sum.inl i : Key)) (by rw [hkk]; omega) (by rw [hkk]; omega)
  refine ⟨num (vs.map fun i => (Sum.inl i : Key)), m2, ?_, Row.of hp (by rw [num_len, hkk]), k2.mono (by omega)⟩
  refine v_runR (v_ret (v_call (m2 := ms0) (v_aC (v_lc (xs := vs.map .int) (v_iA (v_aC (v_var 1 rfl) v_aN) (rng1_nat (by omega))) e2 ?_) v_aN) ?_))
  · rw [List.length_map, hl]
    show k + 1 ≤ 16000000
    omega
  · rw [keys_ints]
    exact law_numbered_ev (by rw [hkk]; omega)
/-- rows drawn -/
theorem draws_rows {f : D → M (Option D)} {P : List Nat → Prop} {c : Nat} (step : ∀ (d : D) (m : MS) (b : Nat), Mk m b → b < 40000 → ∃ r m', Ev (f d) m (some (rowD r)) m' ∧ P r ∧ Mk m' (b + c)) (hc : c ≤ 10) :
    ∀ (ds : List D) (m : MS) (b : Nat), Mk m b → b + 10 * ds.length < 40000 → ∃ (rs : List (List Nat)) (m' : MS), Ev (lcL f ds) m (rs.map rowD) m' ∧ rs.length = ds.length ∧ (∀ r ∈ rs, P r) ∧ Mk m' (b + c * ds.length)
  | [], m, b, hm, _ => ⟨[], m, rfl, rfl, (fun _ h => nomatch h), hm⟩
  | d :: ds, m, b, hm, hb => by
    rw [List.length_cons] at hb
    obtain ⟨v, m1, h1, h2, h3⟩ := step d m b hm (by omega)
    obtain ⟨vs, m2, h4, h5, h6, h7⟩ := draws_rows step hc ds m1 (b + c) h3 (by omega)
    refine ⟨v :: vs, m2, ev_bd h1 (ev_bd h4 rfl), by rw [List.length_cons, List.length_cons, h5], fun x hx => ?_, ?_⟩
    · rcases List.mem_cons.mp hx with rfl | hx
      · exact h2
      · exact h6 x hx
    · rw [List.length_cons, Nat.mul_add, Nat.mul_one, show b + (c * ds.length + c) = b + c + c * ds.length by omega]
      exact h7
/-! ### a lot from rows -/
theorem any_eqv (xs : List (List Nat)) (r : List Nat) : (xs.map rowD).any (fun z => PyData.eqv z (rowD r)) = decide (r ∈ xs) := by
  rw [Bool.eq_iff_iff, List.any_eq_true, decide_eq_true_iff]
  constructor
  · rintro ⟨z, hz, e⟩
    obtain ⟨x, hx, rfl⟩ := List.mem_map.mp hz
    rw [eqv_row, decide_eq_true_iff] at e
    exact e ▸ hx
  · exact fun h => ⟨rowD r, List.mem_map.mpr ⟨r, h, rfl⟩, by rw [eqv_row, decide_eq_true rfl]⟩
theorem row_shaped (r : List Nat) : SeqAt.shaped (rowD r) = true := by
  unfold SeqAt.shaped
  have key : ∀ p : List Nat, PyData.canLayAll0 (natD p) = true ∧ PyData.depthAll (natD p) ≤ 1 := by
    intro p
    induction p with
    | nil => exact ⟨by simp [natD, PyData.canLayAll0], by simp [natD, PyData.depthAll]⟩
    | cons b p ih =>
      have e : natD (b :: p) = .int (b : Nat) :: natD p := rfl
      rw [e]
      exact ⟨by simp [PyData.canLayAll0, PyData.canLay0, ih.1], by have := ih.2; simp only [PyData.depthAll, PyData.depth]; omega⟩
  have h := key r
  rw [Bool.and_eq_true]
  refine ⟨by simp [rowD, PyData.canLay0, h.1], decide_eq_true ?_⟩
  have := h.2
  simp only [rowD, PyData.depth]
  omega
theorem rows_shaped (l : List (List Nat)) : SeqAt.shaped (.list (l.map rowD)) = true := by
  have h := lot_shaped (lot := l)
  unfold SeqAt.shaped at h ⊢
  rw [Bool.and_eq_true] at h ⊢
  obtain ⟨h1, h2⟩ := h
  have h2 := of_decide_eq_true h2
  simp only [lotD, PyData.canLay0, PyData.depth] at h1 h2
  exact ⟨by simp only [PyData.canLay0]; exact h1, decide_eq_true (by simp only [PyData.depth]; exact h2)⟩
theorem notIn_rows (xs : List (List Nat)) (r : List Nat) : notInD (rowD r) (.list (xs.map rowD)) = some (.bool (!decide (r ∈ xs))) := by
  show (if (SeqAt.shaped (rowD r) && SeqAt.shaped (.list (xs.map rowD))) = true then some (PyData.bool (!(xs.map rowD).any fun z => PyData.eqv z (rowD r))) else none) = _
  rw [row_shaped, rows_shaped, any_eqv]
  rfl
end K15
namespace K15
open PySem L2 VL K01
def slcD (a : D) (lo hi : Option Int) : Option D := match a with
  | .list xs => some (.list (cutD xs lo hi))
  | .tuple xs => some (.tuple (cutD xs lo hi))
  | _ => none
theorem v_sl {F : SE → M D} {P P' : SE → M (Option Int)} {en : SE} {a d : D} {lo hi : Option Int} {m m1 m2 m3 : MS} (h : Ev (F en) m a m1) (h1 : Ev (P en) m1 lo m2) (h2 : Ev (P' en) m2 hi m3) (k : slcD a lo hi = some d) : Ev (slD F P P' en) m d m3 := ev_bd h (ev_bd h1 (ev_bd h2 (ev_lft m3 k)))
theorem v_pN {en : SE} {m : MS} : Ev (pN en) m none m := rfl
theorem v_pS {F : SE → M D} {en : SE} {i : Int} {m m1 : MS} (h : Ev (F en) m (.int i) m1) : Ev (pS F en) m (some i) m1 := ev_bd h (ev_bd (ev_lft (a := i) m1 rfl) rfl)
theorem cut_take (xs : List D) (n : Nat) : cutD xs none (some (n : Int)) = xs.take n := by
  unfold cutD
  rw [HT.sIx_none, HT.sIx_nat, List.drop_zero, Nat.sub_zero]
  by_cases h : n ≤ xs.length
  · rw [Nat.min_eq_left h]
  · rw [Nat.min_eq_right (by omega), List.take_of_length_le (Nat.le_refl _), List.take_of_length_le (by omega)]
theorem cut_drop (xs : List D) (n : Nat) : cutD xs (some (n : Int)) none = xs.drop n := by
  unfold cutD
  rw [HT.sIx_none, HT.sIx_nat]
  by_cases h : n ≤ xs.length
  · rw [Nat.min_eq_left h, List.take_of_length_le (by rw [List.length_drop]; omega)]
  · rw [Nat.min_eq_right (by omega), List.drop_eq_nil_of_le (Nat.le_refl _), List.drop_eq_nil_of_le (by omega), List.take_nil]
theorem enumF_map (i : Nat) : ∀ (ys : List (List Nat)), enumF i (ys.map rowD) = enumF i (ys.map rowD) := fun _ => rfl
theorem dedupe {R : List (List Nat)} {m : MS} : ∀ (ys xs : List (List Nat)), R = xs ++ ys → ∃ ds : List (List Nat),
    Ev (lcL (lcStep (gTp 2 (gC (gNm 1) (gC (gNm 2) gN0))) (tV asB (e2 notInD (eVar 2) (slD (eVar 0) pN (pS (eVar 1))))) (eVar 2) (wipeE [some (.list (R.map rowD)), none, none] [1, 2])) (enumF xs.length (ys.map rowD))) m (ds.map rowD) m ∧ ds.Nodup ∧ (∀ r, r ∈ ds ↔ r ∈ ys ∧ r ∉ xs) ∧ ds.length ≤ ys.length
  | [], xs, _ => ⟨[], rfl, List.nodup_nil, fun r => ⟨fun h => (nomatch h), fun h => (nomatch h.1)⟩, Nat.le_refl _⟩
  | y :: ys, xs, hR => by
    obtain ⟨ds, h1, h2, h3, h4⟩ := dedupe (R := R) (m := m) ys (xs ++ [y]) (by rw [hR, List.append_assoc]; rfl)
    rw [List.length_append, List.length_singleton] at h1
    have sl : Ev (slD (eVar 0) pN (pS (eVar 1)) [some (.list (R.map rowD)), some (.int (xs.length : Nat)), some (rowD y)]) m (.list (xs.map rowD)) m := by
      refine v_sl (v_var 0 rfl) v_pN (v_pS (v_var 1 rfl)) ?_
      show some (PyData.list (cutD (R.map rowD) none (some (xs.length : Int)))) = _
      rw [cut_take, hR, List.map_append, List.take_left' (by rw [List.length_map])]
    have tst : Ev (tV asB (e2 notInD (eVar 2) (slD (eVar 0) pN (pS (eVar 1)))) [some (.list (R.map rowD)), some (.int (xs.length : Nat)), some (rowD y)]) m (!decide (y ∈ xs)) m := v_tV (v_e2 (v_var 2 rfl) sl (notIn_rows xs y)) rfl
    by_cases hy : y ∈ xs
    · rw [decide_eq_true hy] at tst
      refine ⟨ds, ev_bd (v_stepF (v_gTp2 1 2 _ _ _ m) tst) (ev_bd h1 rfl), h2, fun r => ?_, by rw [List.length_cons]; omega⟩
      rw [h3 r, List.mem_append, List.mem_singleton, List.mem_cons]
      constructor
      · exact fun z => ⟨.inr z.1, fun q => z.2 (.inl q)⟩
      · rintro ⟨z1 | z1, z2⟩
        · exact absurd (z1 ▸ hy) z2
        · exact ⟨z1, fun q => q.elim z2 fun q => z2 (q ▸ hy)⟩
    · rw [decide_eq_false hy] at tst
      refine ⟨y :: ds, ev_bd (v_stepT (v_gTp2 1 2 _ _ _ m) tst (v_var 2 rfl)) (ev_bd h1 rfl), List.nodup_cons.mpr ⟨fun z => ((h3 y).mp z).2 (by simp), h2⟩, fun r => ?_, by rw [List.length_cons, List.length_cons]; omega⟩
      rw [List.mem_cons, h3 r, List.mem_append, List.mem_singleton, List.mem_cons]
      constructor
      · rintro (z | z)
        · exact ⟨.inl z, z ▸ hy⟩
        · exact ⟨.inr z.1, fun q => z.2 (.inl q)⟩
      · rintro ⟨z1 | z1, z2⟩
        · exact .inl z1
        · by_cases e : r = y
          · exact .inl e
          · exact .inr ⟨z1, fun q => q.elim z2 e⟩
theorem castI_len (r : List Nat) : (castI r).length = r.length := List.length_map _
theorem castI_inj {a b : List Nat} (h : castI a = castI b) : a = b := by
  have := congrArg (List.map Int.toNat) h
  unfold castI at this
  rw [List.map_map, List.map_map, show (Int.toNat ∘ fun (n : Nat) => (n : Int)) = id from funext fun n => Int.toNat_natCast n, List.map_id, List.map_id] at this
  exact this
theorem sort_rows {k : Nat} (hk : k < 8) {ds : List (List Nat)} (hr : ∀ r ∈ ds, Row k r) (hn : ds.Nodup) (hl : ds.length < 64) : ∃ lot, sortTD (.list (ds.map rowD)) = some (.list (lot.map rowD)) ∧ Lot k lot ∧ (∀ r, r ∈ lot ↔ r ∈ ds) ∧ lot.length = ds.length := by
  have e0 : ds.map rowD = (ds.map castI).map tupI := by
    rw [List.map_map]
    exact List.map_congr_left fun r _ => row_tupI r
  have e1 : sortTD (.list (ds.map rowD)) = if ds.map castI = [] then some (.list []) else if fitTs (ds.map castI) = true then some (.list ((sortTs (ds.map castI)).map tupI)) else none := by
    rw [e0]
    show (allTup ((ds.map castI).map tupI)).bind _ = _
    rw [allTup_map]
    rfl
  have p1 : (ds.mergeSort fun a b => decide (code a ≤ code b)).Perm ds := List.mergeSort_perm _ _
  have s1 : (ds.mergeSort fun a b => decide (code a ≤ code b)).Pairwise fun a b => code a ≤ code b := by
    refine List.Pairwise.imp (fun {a b} h => of_decide_eq_true h) (List.pairwise_mergeSort (le := fun a b => decide (code a ≤ code b)) (fun a b c h1 h2 => ?_) (fun a b => ?_) ds)
    · exact decide_eq_true (Int.le_trans (of_decide_eq_true h1) (of_decide_eq_true h2))
    · rcases Int.le_total (code a) (code b) with q | q
      · rw [decide_eq_true q]; rfl
      · rw [decide_eq_true q, Bool.or_true]
  generalize ds.mergeSort (fun a b => decide (code a ≤ code b)) = lot at p1 s1
  have hm : ∀ r, r ∈ lot ↔ r ∈ ds := fun r => p1.mem_iff
  have nd : lot.Nodup := p1.nodup_iff.mpr hn
  have hrow : ∀ r ∈ lot, Row k r := fun r h => hr r ((hm r).mp h)
  have asc : Asc lot := by
    have : lot.Pairwise fun a b => code a ≤ code b ∧ a ≠ b := List.pairwise_and_iff.mpr ⟨s1, nd⟩
    refine List.Pairwise.imp_of_mem (fun {a b} ha hb h => ?_) this
    refine Int.lt_iff_le_and_ne.mpr ⟨h.1, fun e => h.2 (castI_inj ?_)⟩
    have ra := hrow a ha
    have rb := hrow b hb
    exact code_eq (by rw [castI_len, castI_len, ra.len, rb.len]) (ra.small hk).bd (rb.small hk).bd e
  refine ⟨lot, ?_, ⟨hrow, asc⟩, hm, p1.length_eq⟩
  rw [e1]
  cases ds with
  | nil =>
    have : lot = [] := p1.eq_nil
    rw [this]
    rfl
  | cons r0 ds =>
    have hne : (r0 :: ds).map castI ≠ [] := fun z => by cases z
    rw [if_neg hne]
    have hd : ∀ n ∈ (r0 :: ds).map castI, n.length = k + 1 ∧ TS.Bd 64 n := fun n hn => by
      obtain ⟨r, h, rfl⟩ := List.mem_map.mp hn
      exact ⟨by rw [castI_len, (hr r h).len], ((hr r h).small hk).bd⟩
    have hf : fitTs ((r0 :: ds).map castI) = true := by
      have h0 : ((r0 :: ds).map castI).head!.length = k + 1 := by
        show (castI r0).length = _
        rw [castI_len, (hr r0 List.mem_cons_self).len]
      unfold fitTs
      rw [h0]
      simp only [Bool.and_eq_true, decide_eq_true_eq, List.all_eq_true]
      refine ⟨⟨by rw [List.length_map]; exact hl, by omega⟩, fun n hn => ⟨(hd n hn).1, fun x hx => (hd n hn).2 x hx⟩⟩
    rw [if_pos hf]
    have : lot.map castI = sortTs ((r0 :: ds).map castI) := sort_uniq hd (p1.map castI) (by rw [List.pairwise_map]; exact s1)
    rw [← this, List.map_map]
    congr 2
    exact List.map_congr_left fun r _ => (row_tupI r).symm
theorem lot_from_ev {k : Nat} (hk : k < 8) {R : List (List Nat)} (hr : ∀ r ∈ R, Row k r) (hl : R.length < 64) {m : MS} : ∃ lot, Ev (fn__law_lot_from [.list (R.map rowD)]) m (lotD lot) m ∧ Lot k lot ∧ (∀ r, r ∈ lot ↔ r ∈ R) ∧ lot.length ≤ R.length := by
  obtain ⟨ds, h1, h2, h3, h4⟩ := dedupe (R := R) (m := m) R [] rfl
  have h3' : ∀ r, r ∈ ds ↔ r ∈ R := fun r => by rw [h3 r]; simp
  obtain ⟨lot, g1, g2, g3, g4⟩ := sort_rows hk (fun r h => hr r ((h3' r).mp h)) h2 (by omega)
  refine ⟨lot, ?_, g2, fun r => (g3 r).trans (h3' r), by omega⟩
  refine v_runR (v_ret (v_eL (v_aC (v_eL (v_aC (v_lc (v_iA (v_aC (v_var 0 rfl) v_aN) (show enB true [.list (R.map rowD)] = some (enumF 0 (R.map rowD)) by rw [← enumD_F]; rfl)) h1 (by rw [List.length_map]; show _ ≤ 16000000; omega)) v_aN) g1) v_aN) rfl))
end K15
namespace K15
open PySem L2 VL K01
/-! ### something meets each parting -/
def treeC (p q : List Nat) : Bool := decide (topN 0 p + topN 0 q = p.length + 1) && (List.range p.length).all fun j => !badD p q (topN 0 p) (topN 0 p + topN 0 q) j
theorem treeB_C {p q : List Nat} (hp : IsP p) (hq : IsP q) (hl : q.length = p.length) : treeB p q = treeC p q := by
  refine treeB_dec ?_
  unfold treeC Tree
  rw [Bool.and_eq_true, decide_eq_true_iff, List.all_eq_true]
  refine and_congr_right fun c => ?_
  rw [← conn_iff (fun i hi => hp.getD hi) (fun i hi => hq.getD (by omega)) hl hp.l1 c (fun x hx => rg_mem p 0 x hp.g (Nat.zero_le _) hx) fun x hx => rg_mem q 0 x hq.g (Nat.zero_le _) hx]
  constructor
  · intro h j hj
    have := h j (List.mem_range.mpr hj)
    simpa using this
  · intro h j hj
    rw [h j (List.mem_range.mp hj)]
    rfl
def partner (p : List Nat) : List Nat := num ((List.range p.length).map fun i => if p.idxOf (p.getD i 0) = i then 0 else i + 1)
theorem partner_all : ∀ k < 6, (rowsN k).all (fun p => treeC (partner p) p) = true := by decide +kernel
theorem meets_some {k : Nat} (hk : k < 6) {p : List Nat} (hp : Row k p) : ∃ r, Row k r ∧ treeB r p = true := by
  have h := List.all_eq_true.mp (partner_all k hk) p (Row.mem.mpr hp)
  have hl : ((List.range p.length).map fun i => if p.idxOf (p.getD i 0) = i then 0 else i + 1).length = k + 1 := by rw [List.length_map, List.length_range, hp.len]
  have hi : IsP (partner p) := isP_num (by rw [hl]; omega) (by rw [hl]; omega)
  have hr : Row k (partner p) := Row.of hi (by unfold partner; rw [num_len, hl])
  exact ⟨partner p, hr, by rw [treeB_C hi (hp.isP (by omega)) (by rw [hr.len, hp.len])]; exact h⟩
theorem near_pos {k : Nat} (hk : k < 6) {p : List Nat} (hp : Row k p) : 0 < (Tn k [p]).length := by
  obtain ⟨r, h1, h2⟩ := meets_some hk hp
  exact List.length_pos_of_mem (mem_Tn.mpr ⟨h1, fun o ho => by rw [List.mem_singleton.mp ho]; exact h2⟩)
theorem rows_few : ∀ k < 3, (rowsN k).length ≤ 5 := by decide +kernel
theorem all_lot {k : Nat} (hk : k < 6) : Lot k (rowsN k) := ⟨fun r h => Row.mem.mp h, rows_asc k hk⟩
theorem some_lot_ev {k : Nat} (hk : k < 6) {m : MS} {b : Nat} (hm : Mk m b) (hb : b < 20000) : ∃ lot m', Ev (fn__law_some_lot [.int ((k + 1 : Nat) : Int)]) m (lotD lot) m' ∧ Lot k lot ∧ lot.length ≤ 5 ∧ Mk m' (b + 100) := by
  obtain ⟨kind, m1, e1, k1, hm1⟩ := draw_nat (L := 8) hm (by omega) (by decide) (by decide)
  obtain ⟨one, m2, ep, h2, hm2⟩ := parting_ev (k := k) (by omega) hm1 (by omega)
  have st1 : Ev (sPar 3 4 (aC (eCallM fn__law_draw (aC (eC (.int 8)) aN)) (aC (eCallM fn__law_parting (aC (eVar 1) aN)) aN)) (envM 6 [.int ((k + 1 : Nat) : Int)])) m (.nx [none, some (.int ((k + 1 : Nat) : Int)), none, some (.int (kind : Nat)), some (rowD one), none]) m2 :=
    v_par 3 4 (v_aC (v_callM (v_aC (v_c _) v_aN) e1) (v_aC (v_callM (v_aC (v_var 1 rfl) v_aN) ep) v_aN))
  by_cases c0 : kind = 0
  · refine ⟨[], m2, v_runR (v_sq st1 (v_sqR (v_sIfT (v_tV (v_e2 (v_var 3 rfl) (v_c _) (eqT (by omega))) rfl) (v_ret (v_eL v_aN rfl))))), ⟨fun r h => (nomatch h), List.Pairwise.nil⟩, Nat.zero_le _, hm2.mono (by omega)⟩
  have st2 : Ev (sIf (tV asB (e2 eqD (eVar 3) (eC (.int 0)))) (sRet (eL mkT aN)) sNx [none, some (.int ((k + 1 : Nat) : Int)), none, some (.int (kind : Nat)), some (rowD one), none]) m2 (.nx [none, some (.int ((k + 1 : Nat) : Int)), none, some (.int (kind : Nat)), some (rowD one), none]) m2 :=
    v_sIfF (v_tV (v_e2 (v_var 3 rfl) (v_c _) (eqF (by omega))) rfl) v_nx
  by_cases c1 : kind = 1 ∧ k < 3
  · refine ⟨rowsN k, m2, v_runR (v_sq st1 (v_sq st2 (v_sqR (v_sIfT (v_andT (v_tV (v_e2 (v_var 3 rfl) (v_c _) (eqT (by omega))) rfl) (v_tV (v_e2 (v_var 1 rfl) (v_c _) (ltT (by omega))) rfl)) (v_ret (v_eL (v_aC (v_call (v_aC (v_var 1 rfl) v_aN) (law_partings_ev (by omega))) v_aN) rfl)))))), all_lot hk, rows_few k c1.2, hm2.mono (by omega)⟩
  have st3 : Ev (sIf (tAnd2 (tV asB (e2 eqD (eVar 3) (eC (.int 1)))) (tV asB (e2 ltD (eVar 1) (eC (.int 4))))) (sRet (eL (one1 fun d => (seqL d).map .tuple) (aC (eCall fn__law_partings (aC (eVar 1) aN)) aN))) sNx [none, some (.int ((k + 1 : Nat) : Int)), none, some (.int (kind : Nat)), some (rowD one), none]) m2 (.nx [none, some (.int ((k + 1 : Nat) : Int)), none, some (.int (kind : Nat)), some (rowD one), none]) m2 := by
    refine v_sIfF ?_ v_nx
    by_cases e : kind = 1
    · exact v_andT (v_tV (v_e2 (v_var 3 rfl) (v_c _) (eqT (by omega))) rfl) (v_tV (v_e2 (v_var 1 rfl) (v_c _) (ltF (by omega))) rfl)
    · exact v_andF (v_tV (v_e2 (v_var 3 rfl) (v_c _) (eqF (by omega))) rfl)
  by_cases c2 : kind < 4
  · obtain ⟨n, m3, e3, k3, hm3⟩ := draw_nat (L := 4) hm2 (by omega) (by decide) (by decide)
    obtain ⟨rs, m4, e4, l4, r4, hm4⟩ := draws_rows (P := Row k) (c := 6) (f := lcStep (gNm 5) tYs (eCallM fn__law_parting (aC (eVar 1) aN)) (wipeE [none, some (.int ((k + 1 : Nat) : Int)), none, some (.int (kind : Nat)), some (rowD one), none] [5]))
      (fun d m b hm hb => by
        obtain ⟨r, m', q1, q2, q3⟩ := parting_ev (k := k) (by omega) hm (by omega)
        exact ⟨r, m', v_stepT (v_gNm 5 _ _ m) (v_tYs _ m) (v_callM (v_aC (v_var 1 rfl) v_aN) q1), q2, q3.mono (by omega)⟩) (by decide) (rngI 0 (1 + n)) m3 _ hm3 (by rw [rngI_len]; omega)
    rw [rngI_len] at l4 hm4
    obtain ⟨lot, g1, g2, g3, g4⟩ := lot_from_ev (k := k) (by omega) r4 (by omega) (m := ms0)
    refine ⟨lot, m4, v_runR (v_sq st1 (v_sq st2 (v_sq st3 (v_sqR (v_sIfT (v_tV (v_e2 (v_var 3 rfl) (v_c _) (ltT (by omega))) rfl) (v_ret (v_call (v_aC (v_lc (v_iA (v_aC (v_e2 (v_c _) (v_callM (v_aC (v_c _) v_aN) e3) rfl) v_aN) ?_) e4 ?_) v_aN) g1))))))), g2, by omega, hm4.mono (by omega)⟩
    · have := rng1_n (n := 1 + n) (by omega)
      rwa [show ((1 + n : Nat) : Int) = 1 + (n : Nat) by omega] at this
    · rw [List.length_map]
      show _ ≤ 16000000
      omega
  · obtain ⟨n, m3, e3, k3, hm3⟩ := draw_nat (L := 5) hm2 (by omega) (by decide) (by decide)
    have near : Ev (eCall fn__law_met_allL (aC (eL mkL (aC (eVar 4) aN)) (aC (eVar 1) aN)) [none, some (.int ((k + 1 : Nat) : Int)), none, some (.int (kind : Nat)), some (rowD one), none]) m2 (lotD (Tn k [one])) m2 :=
      v_call (v_aC (v_eL (v_aC (v_var 4 rfl) v_aN) rfl) (v_aC (v_var 1 rfl) v_aN)) (met_allL_ev (k := k) (lot := [one]) (by omega) (fun r hr => by rw [List.mem_singleton.mp hr]; exact h2))
    have hpos := near_pos hk h2
    have hlen := tup_of (k := k) (by omega) [one]
    obtain ⟨rs, m4, e4, l4, r4, hm4⟩ := draws_rows (P := Row k) (c := 6) (f := lcStep (gNm 5) tYs (eCallM fn__law_of (aC (eVar 2) aN)) (wipeE [none, some (.int ((k + 1 : Nat) : Int)), some (lotD (Tn k [one])), some (.int (kind : Nat)), some (rowD one), none] [5]))
      (fun d m b hm hb => by
        obtain ⟨r, hr, m', q1, q3⟩ := of_row (rows := Tn k [one]) hm (by omega) hpos (by omega)
        exact ⟨r, m', v_stepT (v_gNm 5 _ _ m) (v_tYs _ m) (v_callM (v_aC (v_var 2 rfl) v_aN) q1), (mem_Tn.mp hr).1, q3.mono (by omega)⟩) (by decide) (rngI 0 (1 + n)) m3 _ hm3 (by rw [rngI_len]; omega)
    rw [rngI_len] at l4 hm4
    obtain ⟨lot, g1, g2, g3, g4⟩ := lot_from_ev (k := k) (by omega) r4 (by omega) (m := ms0)
    refine ⟨lot, m4, v_runR (v_sq st1 (v_sq st2 (v_sq st3 (v_sq (v_sIfF (v_tV (v_e2 (v_var 3 rfl) (v_c _) (ltF (by omega))) rfl) v_nx) (v_sq (v_set 2 near) (v_ret (v_call (v_aC (v_lc (v_iA (v_aC (v_e2 (v_c _) (v_callM (v_aC (v_c _) v_aN) e3) rfl) v_aN) ?_) e4 ?_) v_aN) g1))))))), g2, by omega, hm4.mono (by omega)⟩
    · have := rng1_n (n := 1 + n) (by omega)
      rwa [show ((1 + n : Nat) : Int) = 1 + (n : Nat) by omega] at this
    · rw [List.length_map]
      show _ ≤ 16000000
      omega
end K15
namespace K15
open PySem L2 VL K01
/-- what the law's bad lots are -/
def BadOut (k : Nat) (L : D) (w : Str) : Prop := Ev (fn_lot_fault [L, .int ((k + 1 : Nat) : Int)]) ms0 (.str w) ms0 ∧ (w = "tuple" ∨ w = "parting" ∨ w = "order")
def NoPart (k : Nat) (d : D) : Prop := okP d = true ∧ (isPD d = false ∨ ∃ ds, d = .tuple ds ∧ ds.length ≠ k + 1)
theorem okT_natD (p : List Nat) : (natD p).all okT = true := okT_nat p
theorem pD_big : ∀ (p : List Nat) (k0 v : Int), 0 ≤ k0 → k0 + p.length < v → pD k0 (natD p ++ [.int v]) = false
  | [], k0, v, h0, h => by
    show (decide (0 ≤ v ∧ v ≤ k0) && true) = false
    have : ¬ (0 ≤ v ∧ v ≤ k0) := fun z => by
      simp only [List.length_nil] at h
      omega
    rw [decide_eq_false this]
    rfl
  | b :: p, k0, v, h0, h => by
    show (decide (0 ≤ (b : Int) ∧ (b : Int) ≤ k0) && pD (max k0 ((b : Int) + 1)) (natD p ++ [.int v])) = false
    simp only [List.length_cons] at h
    by_cases c : 0 ≤ (b : Int) ∧ (b : Int) ≤ k0
    · rw [pD_big p (max k0 ((b : Int) + 1)) v (by omega) (by omega), Bool.and_false]
    · rw [decide_eq_false c, Bool.false_and]
theorem natD_drop (p : List Nat) (n : Nat) : (natD p).drop n = natD (p.drop n) := (List.map_drop).symm
theorem natD_dropLast (p : List Nat) : (natD p).dropLast = natD p.dropLast := (List.map_dropLast ..).symm
theorem cut_last (xs : List D) : cutD xs none (some (-1)) = xs.dropLast := by
  unfold cutD
  rw [HT.sIx_none, List.drop_zero, Nat.sub_zero, List.dropLast_eq_take]
  have e : HT.sIx xs.length xs.length (some (-1)) = ((-1 : Int) + (xs.length : Int)).toNat := by
    show (if (-1 : Int) < 0 then ((-1 : Int) + (xs.length : Int)).toNat else min (-1 : Int).toNat xs.length) = _
    rw [if_pos (by decide)]
  rw [e, show ((-1 : Int) + (xs.length : Int)).toNat = xs.length - 1 by omega]
def spoilt (k : Nat) (p : List Nat) : List D := [.none, .list (natD p), .tuple (natD p ++ [.int 0]), .tuple ((natD p).drop 1), .tuple ([.int 1] ++ (natD p).drop 1), .tuple ((natD p).dropLast ++ [.int ((k + 1 : Nat) : Int)]), .tuple ([.bool false] ++ (natD p).drop 1), .int 0]
theorem noPart_app {k : Nat} {p : List Nat} (h : Row k p) : NoPart k (.tuple (natD p ++ [.int 0])) := by
  refine ⟨?_, .inr ⟨_, rfl, by rw [List.length_append, natD_len, h.len]; show k + 1 + 1 ≠ k + 1; omega⟩⟩
  show (natD p ++ [PyData.int 0]).all okT = true
  rw [List.all_append, okT_natD]
  rfl
theorem noPart_one {k : Nat} {p : List Nat} : NoPart k (.tuple ([.int 1] ++ (natD p).drop 1)) := by
  refine ⟨?_, .inl ?_⟩
  · show ([PyData.int 1] ++ (natD p).drop 1).all okT = true
    rw [List.all_append, natD_drop, okT_natD]
    rfl
  · show (decide _ && (decide ((0 : Int) ≤ 1 ∧ (1 : Int) ≤ 0) && _)) = false
    rw [show decide ((0 : Int) ≤ 1 ∧ (1 : Int) ≤ 0) = false by decide, Bool.false_and, Bool.and_false]
theorem spoilt_no {k : Nat} {p : List Nat} (h : Row k p) : ∀ d ∈ spoilt k p, NoPart k d := by
  intro d hd
  unfold spoilt at hd
  simp only [List.mem_cons, List.not_mem_nil, or_false] at hd
  rcases hd with rfl | rfl | rfl | rfl | rfl | rfl | rfl | rfl
  · exact ⟨rfl, .inl rfl⟩
  · exact ⟨rfl, .inl rfl⟩
  · exact noPart_app h
  · refine ⟨?_, .inr ⟨_, rfl, by rw [List.length_drop, natD_len, h.len]; omega⟩⟩
    show ((natD p).drop 1).all okT = true
    rw [natD_drop, okT_natD]
  · exact noPart_one
  · refine ⟨?_, .inl ?_⟩
    · show ((natD p).dropLast ++ [PyData.int ((k + 1 : Nat) : Int)]).all okT = true
      rw [List.all_append, natD_dropLast, okT_natD]
      rfl
    · show (_ && pD 0 ((natD p).dropLast ++ [.int ((k + 1 : Nat) : Int)])) = false
      rw [natD_dropLast, pD_big _ 0 _ (Int.le_refl _) (by rw [List.length_dropLast, h.len]; omega), Bool.and_false]
  · refine ⟨?_, .inl ?_⟩
    · show ([PyData.bool false] ++ (natD p).drop 1).all okT = true
      rw [List.all_append, natD_drop, okT_natD]
      rfl
    · show (decide _ && false) = false
      rw [Bool.and_false]
  · exact ⟨rfl, .inl rfl⟩
theorem addT {xs ys : List D} (h : xs.length + ys.length ≤ 1000) : addD (.tuple xs) (.tuple ys) = some (.tuple (xs ++ ys)) := by
  show (if xs.length + ys.length ≤ lineN then some (PyData.tuple (xs ++ ys)) else none) = _
  rw [if_pos (by show _ ≤ 16000000; omega)]
theorem v_drop1 {F : SE → M D} {en : SE} {xs : List D} {m m1 : MS} (h : Ev (F en) m (.tuple xs) m1) : Ev (slD F (pS (eC (.int 1))) pN en) m (.tuple (xs.drop 1)) m1 :=
  v_sl h (v_pS (v_c _)) v_pN (by show some (PyData.tuple (cutD xs (some ((1 : Nat) : Int)) none)) = _; rw [cut_drop])
theorem v_cutL {F G : SE → M D} {en : SE} {xs : List D} {n : Nat} {m m1 m2 : MS} (h : Ev (F en) m (.tuple xs) m1) (g : Ev (G en) m1 (.int (n : Nat)) m2) : Ev (slD F pN (pS G) en) m (.tuple (xs.take n)) m2 :=
  v_sl h v_pN (v_pS g) (by show some (PyData.tuple (cutD xs none (some (n : Int)))) = _; rw [cut_take])
theorem v_cutR {F G : SE → M D} {en : SE} {xs : List D} {n : Nat} {m m1 m2 : MS} (h : Ev (F en) m (.tuple xs) m1) (g : Ev (G en) m1 (.int (n : Nat)) m2) : Ev (slD F (pS G) pN en) m (.tuple (xs.drop n)) m2 :=
  v_sl h (v_pS g) v_pN (by show some (PyData.tuple (cutD xs (some (n : Int)) none)) = _; rw [cut_drop])
theorem Lot.sub {k : Nat} {a b : List (List Nat)} (h : Lot k b) (s : a.Sublist b) : Lot k a := ⟨fun r hr => h.row r (s.subset hr), h.asc.sublist s⟩
theorem take_drop_map (lot : List (List Nat)) (n : Nat) (d : List D) : (lot.map rowD).take n ++ d ++ (lot.map rowD).drop n = (lot.take n).map rowD ++ (d ++ (lot.drop n).map rowD) := by
  rw [List.map_take, List.map_drop, List.append_assoc]
theorem bad_part {k : Nat} (hk : k < 6) {lot : List (List Nat)} (h : Lot k lot) (n : Nat) {d : D} (hd : NoPart k d) : BadOut k (.tuple ((lot.map rowD).take n ++ [d] ++ (lot.map rowD).drop n)) "parting" := by
  rw [take_drop_map]
  exact ⟨fault_part hk (up_lot hk (h.sub (List.take_sublist n lot)) (.inl rfl)) _ hd.1 hd.2, .inr (.inl rfl)⟩
theorem le_self {k : Nat} (hk : k < 6) {r : List Nat} (h : Row k r) : leN r r = true := by
  rw [leN_code rfl (h.small (by omega)) (h.small (by omega))]
  exact decide_eq_true (Int.le_refl _)
end K15
set_option maxHeartbeats 1000000
namespace K15
open PySem L2 VL K01
theorem lastR_take : ∀ (lot : List (List Nat)) (bf : List Nat) (j : Nat) (h : j < lot.length), lastR bf (lot.take (j + 1)) = lot[j]
  | [], _, _, h => by cases h
  | [x], _, 0, _ => rfl
  | x :: y :: l, _, 0, _ => rfl
  | x :: l, _, j + 1, h => lastR_take l x j (by simpa using h)
theorem idx_row {lot : List (List Nat)} {r : List Nat} (h : r ∈ lot) : ∃ (j : Nat) (hj : j < lot.length), idxDD (lotD lot) (rowD r) = some (.int (j : Nat)) ∧ lot[j] = r := by
  have hf : (lot.map rowD).findIdx (fun z => PyData.eqv z (rowD r)) < (lot.map rowD).length := List.findIdx_lt_length_of_exists ⟨rowD r, List.mem_map.mpr ⟨r, h, rfl⟩, by rw [eqv_row, decide_eq_true rfl]⟩
  have hg := List.findIdx_getElem (w := hf) (p := fun z => PyData.eqv z (rowD r))
  refine ⟨(lot.map rowD).findIdx (fun z => PyData.eqv z (rowD r)), by rw [List.length_map] at hf; exact hf, ?_, ?_⟩
  · show (if (SeqAt.shaped (.tuple (lot.map rowD)) && SeqAt.shaped (rowD r) && decide ((lot.map rowD).findIdx (fun z => PyData.eqv z (rowD r)) < (lot.map rowD).length)) = true then some (PyData.int ((lot.map rowD).findIdx (fun z => PyData.eqv z (rowD r)) : Nat)) else none) = _
    rw [show SeqAt.shaped (.tuple (lot.map rowD)) = true from lot_shaped, row_shaped, decide_eq_true hf]
    rfl
  · rw [List.getElem_map] at hg
    have hg : PyData.eqv (rowD _) (rowD r) = true := hg
    rw [eqv_row, decide_eq_true_iff] at hg
    exact hg
abbrev E8 (lot : List (List Nat)) (k kind place : Nat) (x3 x4 x7 : Option D) : SE := [none, some (lotD lot), some (.int ((k + 1 : Nat) : Int)), x3, x4, some (.int (kind : Nat)), some (.int (place : Nat)), x7]
abbrev B8a : SE → M Ctl := sRet (eL mkT (aC (eCallM fn__law_of (aC (eL mkL (aC (eC .none) (aC (eL (one1 listD) (aC (eVar 1) aN)) (aC (eC (.int 3)) (aC (eC (.str "()")) (aC (eC (.dict [])) aN)))))) aN)) (aC (eC (.str "tuple")) aN)))
abbrev F8 : SE → M D := eL mkL (aC (eC .none) (aC (eL (one1 listD) (aC (eVar 3) aN)) (aC (e2 addD (eVar 3) (eL mkT (aC (eC (.int 0)) aN))) (aC (slD (eVar 3) (pS (eC (.int 1))) pN) (aC (e2 addD (eL mkT (aC (eC (.int 1)) aN)) (slD (eVar 3) (pS (eC (.int 1))) pN)) (aC (e2 addD (slD (eVar 3) pN (pS (e1 negD (eC (.int 1))))) (eL mkT (aC (eVar 2) aN))) (aC (e2 addD (eL mkT (aC (eC (.bool false)) aN)) (slD (eVar 3) (pS (eC (.int 1))) pN)) (aC (eC (.int 0)) aN))))))))
abbrev R8b : SE → M Ctl := sRet (eL mkT (aC (e2 addD (e2 addD (slD (eVar 1) pN (pS (eVar 6))) (eL mkT (aC (eVar 7) aN))) (slD (eVar 1) (pS (eVar 6)) pN)) (aC (eC (.str "parting")) aN)))
abbrev B8b : SE → M Ctl := sq (sSet 3 (eCallM fn__law_parting (aC (eVar 2) aN))) (sq (sSet 7 (eCallM fn__law_of (aC F8 aN))) R8b)
abbrev R8c : SE → M Ctl := sRet (eL mkT (aC (eIf (tV asB (e2 eqD (eVar 5) (eC (.int 4)))) (e2 addD (e2 addD (slD (eVar 1) pN (pS (e2 addD (eVar 4) (eC (.int 1))))) (eL mkT (aC (eVar 3) aN))) (slD (eVar 1) (pS (e2 addD (eVar 4) (eC (.int 1)))) pN)) (e2 addD (eVar 1) (eL mkT (aC (e2 ixD (eVar 1) (eC (.int 0))) aN)))) (aC (eC (.str "order")) aN)))
section
variable {k : Nat} (hk : k < 6) {lot : List (List Nat)} (h : Lot k lot) (hl : lot.length ≤ 5)
include hk h hl
theorem b8_a {kind place : Nat} {m : MS} {b : Nat} (hm : Mk m b) (hb : b < 30000) : ∃ L w m', Ev (B8a (E8 lot k kind place none none none)) m (.rt (.tuple [L, .str w])) m' ∧ BadOut k L w ∧ Mk m' (b + 50) := by
  obtain ⟨j, hj, m3, e3, hm3⟩ := of_list (xs := [.none, .list (lot.map rowD), .int 3, .str "()", .dict []]) hm (by omega) (by show 0 < 5; decide) (by show 5 < 100000; decide)
  have hx : ∀ d ∈ ([.none, .list (lot.map rowD), .int 3, .str "()", .dict []] : List D), okT d = true ∧ d.isTuple = false := by
    intro d hd
    simp only [List.mem_cons, List.not_mem_nil, or_false] at hd
    rcases hd with rfl | rfl | rfl | rfl | rfl <;> exact ⟨rfl, rfl⟩
  have hthis := hx _ (List.getElem_mem hj)
  generalize ([.none, .list (lot.map rowD), .int 3, .str "()", .dict []] : List D)[j] = d at e3 hthis
  have dis : Ev (eL mkL (aC (eC .none) (aC (eL (one1 listD) (aC (eVar 1) aN)) (aC (eC (.int 3)) (aC (eC (.str "()")) (aC (eC (.dict [])) aN))))) (E8 lot k kind place none none none)) m (.list [.none, .list (lot.map rowD), .int 3, .str "()", .dict []]) m :=
    v_eL (v_aC (v_c _) (v_aC (v_eL (v_aC (v_var 1 rfl) v_aN) rfl) (v_aC (v_c _) (v_aC (v_c _) (v_aC (v_c _) v_aN))))) rfl
  exact ⟨d, "tuple", m3, v_ret (v_eL (v_aC (v_callM (v_aC dis v_aN) e3) (v_aC (v_c _) v_aN)) rfl), ⟨fault_tuple hthis.1 hthis.2, .inl rfl⟩, hm3.mono (by omega)⟩
omit hl in
theorem b8_items {kind place : Nat} {one : List Nat} (h3 : Row k one) {m : MS} : Ev (F8 (E8 lot k kind place (some (rowD one)) none none)) m (.list (spoilt k one)) m := by
  have hlen := natD_len one
  have hol := h3.len
  have i2 : Ev (e2 addD (eVar 3) (eL mkT (aC (eC (.int 0)) aN)) (E8 lot k kind place (some (rowD one)) none none)) m (.tuple (natD one ++ [.int 0])) m := v_e2 (v_var 3 rfl) (v_eL (v_aC (v_c _) v_aN) rfl) (addT (by rw [hlen, hol]; show k + 1 + 1 ≤ 1000; omega))
  have i3 : Ev (slD (eVar 3) (pS (eC (.int 1))) pN (E8 lot k kind place (some (rowD one)) none none)) m (.tuple ((natD one).drop 1)) m := v_drop1 (v_var 3 rfl)
  have i4 : Ev (e2 addD (eL mkT (aC (eC (.int 1)) aN)) (slD (eVar 3) (pS (eC (.int 1))) pN) (E8 lot k kind place (some (rowD one)) none none)) m (.tuple ([.int 1] ++ (natD one).drop 1)) m := v_e2 (v_eL (v_aC (v_c _) v_aN) rfl) i3 (addT (by rw [List.length_drop, hlen, hol]; show 1 + (k + 1 - 1) ≤ 1000; omega))
  have i5 : Ev (e2 addD (slD (eVar 3) pN (pS (e1 negD (eC (.int 1))))) (eL mkT (aC (eVar 2) aN)) (E8 lot k kind place (some (rowD one)) none none)) m (.tuple ((natD one).dropLast ++ [.int ((k + 1 : Nat) : Int)])) m :=
    v_e2 (v_sl (v_var 3 rfl) v_pN (v_pS (v_e1 (v_c _) rfl)) (show slcD (rowD one) none (some (-1)) = some (.tuple ((natD one).dropLast)) by show some (PyData.tuple (cutD (natD one) none (some (-1)))) = _; rw [cut_last])) (v_eL (v_aC (v_var 2 rfl) v_aN) rfl) (addT (by rw [List.length_dropLast, hlen, hol]; show k + 1 - 1 + 1 ≤ 1000; omega))
  have i6 : Ev (e2 addD (eL mkT (aC (eC (.bool false)) aN)) (slD (eVar 3) (pS (eC (.int 1))) pN) (E8 lot k kind place (some (rowD one)) none none)) m (.tuple ([.bool false] ++ (natD one).drop 1)) m := v_e2 (v_eL (v_aC (v_c _) v_aN) rfl) i3 (addT (by rw [List.length_drop, hlen, hol]; show 1 + (k + 1 - 1) ≤ 1000; omega))
  exact v_eL (v_aC (v_c _) (v_aC (v_eL (v_aC (v_var 3 rfl) v_aN) rfl) (v_aC i2 (v_aC i3 (v_aC i4 (v_aC i5 (v_aC i6 (v_aC (v_c _) v_aN)))))))) rfl
theorem b8_b {kind place : Nat} {m : MS} {b : Nat} (hm : Mk m b) (hb : b < 30000) : ∃ L w m', Ev (B8b (E8 lot k kind place none none none)) m (.rt (.tuple [L, .str w])) m' ∧ BadOut k L w ∧ Mk m' (b + 50) := by
  obtain ⟨one, m3, e3, h3, hm3⟩ := parting_ev (k := k) (by omega) hm (by omega)
  obtain ⟨j, hj, m4, e4, hm4⟩ := of_list (xs := spoilt k one) hm3 (by omega) (by show 0 < 8; decide) (by show 8 < 100000; decide)
  have hno := spoilt_no h3 _ (List.getElem_mem hj)
  generalize (spoilt k one)[j] = d at e4 hno
  have s3 : Ev (sSet 3 (eCallM fn__law_parting (aC (eVar 2) aN)) (E8 lot k kind place none none none)) m (.nx (E8 lot k kind place (some (rowD one)) none none)) m3 := v_set 3 (v_callM (v_aC (v_var 2 rfl) v_aN) e3)
  have s7 : Ev (sSet 7 (eCallM fn__law_of (aC F8 aN)) (E8 lot k kind place (some (rowD one)) none none)) m3 (.nx (E8 lot k kind place (some (rowD one)) none (some d))) m4 := v_set 7 (v_callM (v_aC (b8_items hk h h3) v_aN) e4)
  have r1 : Ev (e2 addD (slD (eVar 1) pN (pS (eVar 6))) (eL mkT (aC (eVar 7) aN)) (E8 lot k kind place (some (rowD one)) none (some d))) m4 (.tuple ((lot.map rowD).take place ++ [d])) m4 :=
    v_e2 (v_cutL (v_var 1 rfl) (v_var 6 rfl)) (v_eL (v_aC (v_var 7 rfl) v_aN) rfl) (addT (by rw [List.length_take, List.length_map]; show min place lot.length + 1 ≤ 1000; omega))
  have r2 : Ev (e2 addD (e2 addD (slD (eVar 1) pN (pS (eVar 6))) (eL mkT (aC (eVar 7) aN))) (slD (eVar 1) (pS (eVar 6)) pN) (E8 lot k kind place (some (rowD one)) none (some d))) m4 (.tuple ((lot.map rowD).take place ++ [d] ++ (lot.map rowD).drop place)) m4 :=
    v_e2 r1 (v_cutR (v_var 1 rfl) (v_var 6 rfl)) (addT (by rw [List.length_append, List.length_take, List.length_drop, List.length_map]; show min place lot.length + 1 + (lot.length - place) ≤ 1000; omega))
  exact ⟨_, "parting", m4, v_sq s3 (v_sq s7 (v_ret (v_eL (v_aC r2 (v_aC (v_c _) v_aN)) rfl))), bad_part hk h place hno, hm4.mono (by omega)⟩
theorem b8_c (hne : lot ≠ []) {kind place : Nat} {m : MS} {b : Nat} (hm : Mk m b) (hb : b < 30000) : ∃ L w m', Ev (sq (sSet 3 (eCallM fn__law_of (aC (eVar 1) aN))) (sq (sSet 4 (e2 idxDD (eVar 1) (eVar 3))) R8c) (E8 lot k kind place none none none)) m (.rt (.tuple [L, .str w])) m' ∧ BadOut k L w ∧ Mk m' (b + 50) := by
  have hpos : 0 < lot.length := List.length_pos_iff.mpr hne
  obtain ⟨one, hmem, m3, e3, hm3⟩ := of_row (rows := lot) hm (by omega) hpos (by omega)
  obtain ⟨j, hj, e4, hje⟩ := idx_row hmem
  have st4 : Ev (sSet 3 (eCallM fn__law_of (aC (eVar 1) aN)) (E8 lot k kind place none none none)) m (.nx (E8 lot k kind place (some (rowD one)) none none)) m3 := v_set 3 (v_callM (v_aC (v_var 1 rfl) v_aN) e3)
  have st5 : Ev (sSet 4 (e2 idxDD (eVar 1) (eVar 3)) (E8 lot k kind place (some (rowD one)) none none)) m3 (.nx (E8 lot k kind place (some (rowD one)) (some (.int (j : Nat))) none)) m3 := v_set 4 (v_e2 (v_var 1 rfl) (v_var 3 rfl) e4)
  by_cases c4 : kind = 4
  · have tst : Ev (tV asB (e2 eqD (eVar 5) (eC (.int 4))) (E8 lot k kind place (some (rowD one)) (some (.int (j : Nat))) none)) m3 true m3 := v_tV (v_e2 (v_var 5 rfl) (v_c _) (eqT (by omega))) rfl
    have ix : Ev (e2 addD (eVar 4) (eC (.int 1)) (E8 lot k kind place (some (rowD one)) (some (.int (j : Nat))) none)) m3 (.int ((j + 1 : Nat) : Int)) m3 := v_e2 (v_var 4 rfl) (v_c _) (addN j 1)
    have r1 : Ev (e2 addD (slD (eVar 1) pN (pS (e2 addD (eVar 4) (eC (.int 1))))) (eL mkT (aC (eVar 3) aN)) (E8 lot k kind place (some (rowD one)) (some (.int (j : Nat))) none)) m3 (.tuple ((lot.map rowD).take (j + 1) ++ [rowD one])) m3 :=
      v_e2 (v_cutL (v_var 1 rfl) ix) (v_eL (v_aC (v_var 3 rfl) v_aN) rfl) (addT (by rw [List.length_take, List.length_map]; show min (j + 1) lot.length + 1 ≤ 1000; omega))
    have r2 : Ev (e2 addD (e2 addD (slD (eVar 1) pN (pS (e2 addD (eVar 4) (eC (.int 1))))) (eL mkT (aC (eVar 3) aN))) (slD (eVar 1) (pS (e2 addD (eVar 4) (eC (.int 1)))) pN) (E8 lot k kind place (some (rowD one)) (some (.int (j : Nat))) none)) m3 (.tuple ((lot.map rowD).take (j + 1) ++ [rowD one] ++ (lot.map rowD).drop (j + 1))) m3 :=
      v_e2 r1 (v_cutR (v_var 1 rfl) ix) (addT (by rw [List.length_append, List.length_take, List.length_drop, List.length_map]; show min (j + 1) lot.length + 1 + (lot.length - (j + 1)) ≤ 1000; omega))
    refine ⟨_, "order", m3, v_sq st4 (v_sq st5 (v_ret (v_eL (v_aC (v_ifT tst r2) (v_aC (v_c _) v_aN)) rfl))), ?_, hm3.mono (by omega)⟩
    rw [take_drop_map]
    refine ⟨fault_order hk (up_lot hk (h.sub (List.take_sublist _ lot)) (.inl rfl)) _ (h.row one hmem) ?_, .inr (.inr rfl)⟩
    rw [lastR_take lot [] j hj, hje]
    exact le_self hk (h.row one hmem)
  · have tst : Ev (tV asB (e2 eqD (eVar 5) (eC (.int 4))) (E8 lot k kind place (some (rowD one)) (some (.int (j : Nat))) none)) m3 false m3 := v_tV (v_e2 (v_var 5 rfl) (v_c _) (eqF (by omega))) rfl
    have hix : ixD (lotD lot) (.int 0) = some (rowD lot[0]) := by
      have := (ix_get (xs := lot.map rowD) (j := 0) (by rw [List.length_map]; exact hpos)).2
      rw [List.getElem_map] at this
      exact this
    have r2 : Ev (e2 addD (eVar 1) (eL mkT (aC (e2 ixD (eVar 1) (eC (.int 0))) aN)) (E8 lot k kind place (some (rowD one)) (some (.int (j : Nat))) none)) m3 (.tuple (lot.map rowD ++ [rowD lot[0]])) m3 :=
      v_e2 (v_var 1 rfl) (v_eL (v_aC (v_e2 (v_var 1 rfl) (v_c _) hix) v_aN) rfl) (addT (by rw [List.length_map]; show lot.length + 1 ≤ 1000; omega))
    refine ⟨_, "order", m3, v_sq st4 (v_sq st5 (v_ret (v_eL (v_aC (v_ifF tst r2) (v_aC (v_c _) v_aN)) rfl))), ?_, hm3.mono (by omega)⟩
    refine ⟨fault_order hk (up_lot hk h (.inl rfl)) [] (h.row _ (List.getElem_mem hpos)) ?_, .inr (.inr rfl)⟩
    have r0 := h.row _ (List.getElem_mem hpos)
    have hlm := lastR_mem lot [] hne
    have rl := h.row _ hlm
    rw [leN_code (by rw [r0.len, rl.len]) (r0.small (by omega)) (rl.small (by omega))]
    refine decide_eq_true ?_
    cases lot with
    | nil => exact absurd rfl hne
    | cons x rest =>
      rcases List.mem_cons.mp hlm with e | e
      · rw [e]; exact Int.le_refl _
      · exact Int.le_of_lt ((List.pairwise_cons.mp h.asc).1 _ e)
theorem bad_lot_ev {m : MS} {b : Nat} (hm : Mk m b) (hb : b < 20000) :
    ∃ L w m', Ev (fn__law_bad_lot [lotD lot, .int ((k + 1 : Nat) : Int)]) m (.tuple [L, .str w]) m' ∧ BadOut k L w ∧ Mk m' (b + 100) := by
  obtain ⟨kind, m1, ed, k1, hm1⟩ := draw_nat (L := 6) hm (by omega) (by decide) (by decide)
  obtain ⟨place, m2, ep, k2, hm2⟩ := draw_nat (L := lot.length + 1) hm1 (by omega) (by omega) (by omega)
  have lenE : Ev (eL (one1 lenD) (aC (eVar 1) aN) (envM 8 [lotD lot, .int ((k + 1 : Nat) : Int)])) m1 (.int (lot.length : Nat)) m1 :=
    v_eL (v_aC (v_var 1 rfl) v_aN) (by show some (PyData.int ((lot.map rowD).length : Nat)) = _; rw [List.length_map])
  have st1 : Ev (sPar 5 6 (aC (eCallM fn__law_draw (aC (eC (.int 6)) aN)) (aC (eCallM fn__law_draw (aC (e2 addD (eL (one1 lenD) (aC (eVar 1) aN)) (eC (.int 1))) aN)) aN)) (envM 8 [lotD lot, .int ((k + 1 : Nat) : Int)])) m (.nx (E8 lot k kind place none none none)) m2 :=
    v_par 5 6 (v_aC (v_callM (v_aC (v_c _) v_aN) ed) (v_aC (v_callM (v_aC (v_e2 lenE (v_c _) (addN lot.length 1)) v_aN) ep) v_aN))
  by_cases c0 : kind = 0
  · have tst : Ev (tV asB (e2 eqD (eVar 5) (eC (.int 0))) (E8 lot k kind place none none none)) m2 true m2 := v_tV (v_e2 (v_var 5 rfl) (v_c _) (eqT (by omega))) rfl
    obtain ⟨L, w, m', g1, g2, g3⟩ := b8_a hk h hl (kind := kind) (place := place) hm2 (by omega)
    exact ⟨L, w, m', v_runR (v_sq st1 (v_sqR (v_sIfT tst g1))), g2, g3.mono (by omega)⟩
  · have st2 : Ev (sIf (tV asB (e2 eqD (eVar 5) (eC (.int 0)))) B8a sNx (E8 lot k kind place none none none)) m2 (.nx (E8 lot k kind place none none none)) m2 := v_sIfF (v_tV (v_e2 (v_var 5 rfl) (v_c _) (eqF (by omega))) rfl) v_nx
    have eqE : Ev (tV asB (e2 eqD (eVar 1) (eL mkT aN)) (E8 lot k kind place none none none)) m2 (decide (lot = [])) m2 := v_tV (v_e2 (v_var 1 rfl) (v_eL v_aN rfl) (eqD_lot lot [])) rfl
    have cond : Ev (tOr2 (tV asB (e2 ltD (eVar 5) (eC (.int 4)))) (tV asB (e2 eqD (eVar 1) (eL mkT aN))) (E8 lot k kind place none none none)) m2 (decide (kind < 4 ∨ lot = [])) m2 := by
      by_cases c : kind < 4
      · rw [decide_eq_true (.inl c)]
        exact v_orT (v_tV (v_e2 (v_var 5 rfl) (v_c _) (ltT (by omega))) rfl)
      · rw [show decide (kind < 4 ∨ lot = []) = decide (lot = []) from decide_eq_decide.mpr ⟨fun z => z.resolve_left c, .inr⟩]
        exact v_orF (v_tV (v_e2 (v_var 5 rfl) (v_c _) (ltF (by omega))) rfl) eqE
    by_cases c1 : kind < 4 ∨ lot = []
    · rw [decide_eq_true c1] at cond
      obtain ⟨L, w, m', g1, g2, g3⟩ := b8_b hk h hl (kind := kind) (place := place) hm2 (by omega)
      exact ⟨L, w, m', v_runR (v_sq st1 (v_sq st2 (v_sqR (v_sIfT cond g1)))), g2, g3.mono (by omega)⟩
    · rw [decide_eq_false c1] at cond
      obtain ⟨L, w, m', g1, g2, g3⟩ := b8_c hk h hl (fun z => c1 (.inr z)) (kind := kind) (place := place) hm2 (by omega)
      exact ⟨L, w, m', v_runR (v_sq st1 (v_sq st2 (v_sq (v_sIfF cond v_nx) g1))), g2, g3.mono (by omega)⟩
end
end K15
namespace K15
open PySem L2 VL K01
abbrev E5 (lot : List (List Nat)) (k : Nat) (x3 x4 : Option D) : SE := [none, some (lotD lot), some (.int ((k + 1 : Nat) : Int)), x3, x4]
theorem twice_bad_ev {k : Nat} (hk : k < 6) {lot : List (List Nat)} (h : Lot k lot) (hl : lot.length ≤ 5) {m : MS} {b : Nat} (hm : Mk m b) (hb : b < 20000) :
    ∃ L w m', Ev (fn__law_twice_bad [lotD lot, .int ((k + 1 : Nat) : Int)]) m (.tuple [L, .str w]) m' ∧ BadOut k L w ∧ Mk m' (b + 100) := by
  obtain ⟨one, m1, e1', h1, hm1⟩ := parting_ev (k := k) (by omega) hm (by omega)
  have hlen := natD_len one
  have hol := h1.len
  obtain ⟨j, hj, m2, e2', hm2⟩ := of_list (xs := [.none, .list (natD one), .tuple (natD one ++ [.int 0]), .tuple ([.int 1] ++ (natD one).drop 1)]) hm1 (by omega) (by show 0 < 4; decide) (by show 4 < 100000; decide)
  have hno : ∀ d ∈ ([.none, .list (natD one), .tuple (natD one ++ [.int 0]), .tuple ([.int 1] ++ (natD one).drop 1)] : List D), NoPart k d := by
    intro d hd
    simp only [List.mem_cons, List.not_mem_nil, or_false] at hd
    rcases hd with rfl | rfl | rfl | rfl
    · exact ⟨rfl, .inl rfl⟩
    · exact ⟨rfl, .inl rfl⟩
    · exact noPart_app h1
    · exact noPart_one
  have hd := hno _ (List.getElem_mem hj)
  generalize ([.none, .list (natD one), .tuple (natD one ++ [.int 0]), .tuple ([.int 1] ++ (natD one).drop 1)] : List D)[j] = d at e2' hd
  obtain ⟨c, m3, e3, hc, hm3⟩ := draw_nat (L := 2) hm2 (by omega) (by decide) (by decide)
  have s3 : Ev (sSet 3 (eCallM fn__law_parting (aC (eVar 2) aN)) (E5 lot k none none)) m (.nx (E5 lot k (some (rowD one)) none)) m1 := v_set 3 (v_callM (v_aC (v_var 2 rfl) v_aN) e1')
  have i2 : Ev (e2 addD (eVar 3) (eL mkT (aC (eC (.int 0)) aN)) (E5 lot k (some (rowD one)) none)) m1 (.tuple (natD one ++ [.int 0])) m1 := v_e2 (v_var 3 rfl) (v_eL (v_aC (v_c _) v_aN) rfl) (addT (by rw [hlen, hol]; show k + 1 + 1 ≤ 1000; omega))
  have i4 : Ev (e2 addD (eL mkT (aC (eC (.int 1)) aN)) (slD (eVar 3) (pS (eC (.int 1))) pN) (E5 lot k (some (rowD one)) none)) m1 (.tuple ([.int 1] ++ (natD one).drop 1)) m1 := v_e2 (v_eL (v_aC (v_c _) v_aN) rfl) (v_drop1 (v_var 3 rfl)) (addT (by rw [List.length_drop, hlen, hol]; show 1 + (k + 1 - 1) ≤ 1000; omega))
  have dis : Ev (eL mkL (aC (eC .none) (aC (eL (one1 listD) (aC (eVar 3) aN)) (aC (e2 addD (eVar 3) (eL mkT (aC (eC (.int 0)) aN))) (aC (e2 addD (eL mkT (aC (eC (.int 1)) aN)) (slD (eVar 3) (pS (eC (.int 1))) pN)) aN)))) (E5 lot k (some (rowD one)) none)) m1 (.list [.none, .list (natD one), .tuple (natD one ++ [.int 0]), .tuple ([.int 1] ++ (natD one).drop 1)]) m1 :=
    v_eL (v_aC (v_c _) (v_aC (v_eL (v_aC (v_var 3 rfl) v_aN) rfl) (v_aC i2 (v_aC i4 v_aN)))) rfl
  have s4 : Ev (sSet 4 (eCallM fn__law_of (aC (eL mkL (aC (eC .none) (aC (eL (one1 listD) (aC (eVar 3) aN)) (aC (e2 addD (eVar 3) (eL mkT (aC (eC (.int 0)) aN))) (aC (e2 addD (eL mkT (aC (eC (.int 1)) aN)) (slD (eVar 3) (pS (eC (.int 1))) pN)) aN))))) aN)) (E5 lot k (some (rowD one)) none)) m1 (.nx (E5 lot k (some (rowD one)) (some d))) m2 := v_set 4 (v_callM (v_aC dis v_aN) e2')
  have tst : Ev (tV asB (e2 eqD (eCallM fn__law_draw (aC (eC (.int 2)) aN)) (eC (.int 0))) (E5 lot k (some (rowD one)) (some d))) m2 (decide ((c : Int) = 0)) m3 := v_tV (v_e2 (v_callM (v_aC (v_c _) v_aN) e3) (v_c _) (eqD_I _ _)) rfl
  by_cases c0 : (c : Int) = 0
  · rw [decide_eq_true c0] at tst
    have r : Ev (e2 addD (eVar 1) (eL mkT (aC (eVar 4) (aC (eVar 3) (aC (eVar 3) aN)))) (E5 lot k (some (rowD one)) (some d))) m3 (.tuple (lot.map rowD ++ [d, rowD one, rowD one])) m3 :=
      v_e2 (v_var 1 rfl) (v_eL (v_aC (v_var 4 rfl) (v_aC (v_var 3 rfl) (v_aC (v_var 3 rfl) v_aN))) rfl) (addT (by rw [List.length_map]; show lot.length + 3 ≤ 1000; omega))
    exact ⟨_, "parting", m3, v_runR (v_sq s3 (v_sq s4 (v_ret (v_ifT tst (v_eL (v_aC r (v_aC (v_c _) v_aN)) rfl))))), ⟨fault_part hk (up_lot hk h (.inl rfl)) [rowD one, rowD one] hd.1 hd.2, .inr (.inl rfl)⟩, hm3.mono (by omega)⟩
  · rw [decide_eq_false c0] at tst
    have r : Ev (e2 addD (eL mkT (aC (eVar 3) (aC (eVar 3) (aC (eVar 4) aN)))) (eVar 1) (E5 lot k (some (rowD one)) (some d))) m3 (.tuple ([rowD one, rowD one, d] ++ lot.map rowD)) m3 :=
      v_e2 (v_eL (v_aC (v_var 3 rfl) (v_aC (v_var 3 rfl) (v_aC (v_var 4 rfl) v_aN))) rfl) (v_var 1 rfl) (addT (by rw [List.length_map]; show 3 + lot.length ≤ 1000; omega))
    refine ⟨_, "order", m3, v_runR (v_sq s3 (v_sq s4 (v_ret (v_ifF tst (v_eL (v_aC r (v_aC (v_c _) v_aN)) rfl))))), ⟨?_, .inr (.inr rfl)⟩, hm3.mono (by omega)⟩
    exact fault_order hk (rows := [one]) ⟨h1, leN_nil (by rw [hol]; omega), trivial⟩ (d :: lot.map rowD) h1 (le_self hk h1)
/-! ### alike -/
theorem like_x {n : Nat} {d : D} {m : MS} (hn : n < 60) (h : plX n d = true) (hb : d.bulk ≤ 300000) : Ev (fn__law_like [d, d]) m (.bool true) m :=
  v_runR (v_ret (v_e2 (v_eL (v_aC (v_var 0 rfl) v_aN) (reprD_x hn h hb)) (v_eL (v_aC (v_var 1 rfl) v_aN) (reprD_x hn h hb)) (eqD_str (plX_ok h))))
theorem rows203 : ∀ k < 6, (rowsN k).length ≤ 203 := by decide +kernel
theorem Tn_few {k : Nat} (hk : k < 6) (lot : List (List Nat)) : (Tn k lot).length ≤ 203 := Nat.le_trans (List.length_filter_le _ _) (rows203 k hk)
theorem plX_lot {k : Nat} (hk : k < 6) {lot : List (List Nat)} (h : ∀ r ∈ lot, Row k r) (n : Nat) : plX (n + 2) (lotD lot) = true := by
  show (lot.map rowD).all (plX (n + 1)) = true
  refine List.all_eq_true.mpr fun d hd => ?_
  obtain ⟨r, hr, rfl⟩ := List.mem_map.mp hd
  show (natD r).all (plX n) = true
  refine List.all_eq_true.mpr fun d hd => ?_
  obtain ⟨b, hb, rfl⟩ := List.mem_map.mp hd
  have := (h r hr).small (by omega) b hb
  have e : plX n (.int (b : Nat)) = intX (b : Nat) := by cases n <;> rfl
  rw [e]
  refine decide_eq_true ?_
  rw [Int.natAbs_natCast]
  exact Nat.lt_of_lt_of_le this (by decide)
theorem bulk_lot {k : Nat} (hk : k < 6) {lot : List (List Nat)} (h : ∀ r ∈ lot, Row k r) (hl : lot.length ≤ 203) : (lotD lot).bulk ≤ 5000 := by
  have hr : ∀ d ∈ lot.map rowD, d.bulk ≤ 12 := fun d hd => by
    obtain ⟨r, hr, rfl⟩ := List.mem_map.mp hd
    have h1 : (PyData.tuple (natD r)).bulk ≤ (1 + 1) * (natD r).length := bulk_tuple fun d hd => by
      obtain ⟨b, _, rfl⟩ := List.mem_map.mp hd
      exact bulk_int _
    rw [natD_len, (h r hr).len] at h1
    exact Nat.le_trans h1 (by omega)
  have := bulk_tuple hr
  rw [List.length_map] at this
  exact Nat.le_trans this (by omega)
end K15
namespace K15
open PySem L2 VL K01
theorem v_eOrT {F G : SE → M D} {en : SE} {m m1 : MS} (h : Ev (F en) m (.bool true) m1) : Ev (eOr F G en) m (.bool true) m1 := ev_bd h (ev_bd (ev_lft (a := true) m1 rfl) rfl)
theorem v_eOrF {F G : SE → M D} {en : SE} {d : D} {m m1 m2 : MS} (h : Ev (F en) m (.bool false) m1) (k : Ev (G en) m1 d m2) : Ev (eOr F G en) m d m2 := ev_bd h (ev_bd (ev_lft (a := false) m1 rfl) k)
theorem notIn_lot (xs : List (List Nat)) (r : List Nat) : notInD (rowD r) (lotD xs) = some (.bool (!decide (r ∈ xs))) := by
  show (if (SeqAt.shaped (rowD r) && SeqAt.shaped (lotD xs)) = true then some (PyData.bool (!(xs.map rowD).any fun z => PyData.eqv z (rowD r))) else none) = _
  rw [row_shaped, lot_shaped, any_eqv]
  rfl
/-- nothing is left over -/
theorem none_out {a : List (List Nat)} {F : SE → M D} {en : SE} {i : Nat} {m : MS} {I : SE → M D} (hi : Ev (I en) m (lotD a) m) (hF : ∀ r ∈ a, Ev (F (List.set (wipeE en [i]) i (some (rowD r)))) m (.bool false) m) : Ev (tV asB (e2 neD (lcF (iL seqT I) (gNm i) (tV asB F) (eC (.int 1)) [i]) (eL mkL aN)) en) m false m := by
  have h : Ev (lcL (lcStep (gNm i) (tV asB F) (eC (.int 1)) (wipeE en [i])) (a.map rowD)) m [] m := by
    have := v_lcG (f := lcStep (gNm i) (tV asB F) (eC (.int 1)) (wipeE en [i])) rowD (fun _ => none) (m := m) (as := a) fun r hr => v_stepF (v_gNm i _ _ m) (v_tV (hF r hr) rfl)
    rwa [show a.filterMap (fun _ => (none : Option D)) = [] from List.filterMap_eq_nil_iff.mpr fun _ _ => rfl] at this
  exact v_tV (v_e2 (v_lc (v_iL hi rfl) h (Nat.zero_le _)) (v_eL v_aN rfl) (ne_nil (ns := []))) rfl
abbrev E10 (lot : List (List Nat)) (k : Nat) (x3 x4 x5 x6 x7 x8 x9 : Option D) : SE := [none, some (lotD lot), some (.int ((k + 1 : Nat) : Int)), x3, x4, x5, x6, x7, x8, x9]
def sz (r : List Nat) : Int := (topN 0 r : Nat) - 1
theorem right_ev {k : Nat} (hk : k < 6) {lot : List (List Nat)} (h : Lot k lot) (hl : lot.length ≤ 5) {m : MS} {b : Nat} (hm : Mk m b) (hb : b < 20000) :
    ∃ m', Ev (fn__law_right [lotD lot, .int ((k + 1 : Nat) : Int)]) m (.bool true) m' ∧ Mk m' (b + 100) := by
  have l1 := Tn_lot hk lot
  have l2 := Tn_lot hk (Tn k lot)
  have t3 : Tn k (Tn k (Tn k lot)) = Tn k lot := Tn_three h.row
  have f0 : lot.length ≤ 203 := by omega
  have f1 := Tn_few hk lot
  have f2 := Tn_few hk (Tn k lot)
  obtain ⟨one, m1, eo, ho, hm1⟩ := parting_ev (k := k) (by omega) hm (by omega)
  have hR : ∀ r ∈ lot ++ [one], Row k r := fun r hr => by
    rcases List.mem_append.mp hr with q | q
    · exact h.row r q
    · rw [List.mem_singleton.mp q]; exact ho
  obtain ⟨more, em, lm, mm, fm⟩ := lot_from_ev (k := k) (by omega) hR (by rw [List.length_append]; show lot.length + 1 < 64; omega) (m := ms0)
  rw [List.length_append] at fm
  have fm : more.length ≤ lot.length + 1 := fm
  have sub : ∀ r ∈ lot, r ∈ more := fun r hr => (mm r).mpr (List.mem_append_left _ hr)
  have s3 : Ev (sSet 3 (eCall fn__law_met_all (aC (eVar 1) (aC (eVar 2) aN))) (E10 lot k none none none none none none none)) m (.nx (E10 lot k (some (lotD (Tn k lot))) none none none none none none)) m := v_set 3 (v_call (v_aC (v_var 1 rfl) (v_aC (v_var 2 rfl) v_aN)) (met_all_ev (by omega) h.row))
  have s4 : Ev (sSet 4 (eCall fn__law_met_all (aC (eVar 3) (aC (eVar 2) aN))) (E10 lot k (some (lotD (Tn k lot))) none none none none none none)) m (.nx (E10 lot k (some (lotD (Tn k lot))) (some (lotD (Tn k (Tn k lot)))) none none none none none)) m := v_set 4 (v_call (v_aC (v_var 3 rfl) (v_aC (v_var 2 rfl) v_aN)) (met_all_ev (by omega) l1.row))
  -- the first like
  have c1 : Ev (tNot1 (tV asB (eCall fn__law_like (aC (eL mkL (aC (eCall fn_turned (aC (eVar 1) (aC (eVar 2) aN))) (aC (eCall fn_closed (aC (eVar 1) (aC (eVar 2) aN))) (aC (eCall fn_is_closed (aC (eVar 1) (aC (eVar 2) aN))) aN)))) (aC (eL mkL (aC (eVar 3) (aC (eVar 4) (aC (e2 eqD (eVar 4) (eVar 1)) aN)))) aN)))) (E10 lot k (some (lotD (Tn k lot))) (some (lotD (Tn k (Tn k lot)))) none none none none none)) m false m := by
    refine v_not (o := true) (v_tV (v_call (v_aC (v_eL (v_aC (v_call (v_aC (v_var 1 rfl) (v_aC (v_var 2 rfl) v_aN)) (turned_ev hk h)) (v_aC (v_call (v_aC (v_var 1 rfl) (v_aC (v_var 2 rfl) v_aN)) (closed_ev hk h)) (v_aC (v_call (v_aC (v_var 1 rfl) (v_aC (v_var 2 rfl) v_aN)) (is_closed_ev hk h)) v_aN))) rfl) (v_aC (v_eL (v_aC (v_var 3 rfl) (v_aC (v_var 4 rfl) (v_aC (v_e2 (v_var 4 rfl) (v_var 1 rfl) (eqD_lot _ _)) v_aN))) rfl) v_aN)) (like_x (n := 3) (by decide) ?_ ?_)) rfl)
    · show (plX 2 (lotD _) && (plX 2 (lotD _) && (true && true))) = true
      rw [plX_lot hk l1.row 0, plX_lot hk l2.row 0]
      rfl
    · have b1 := bulk_lot hk l1.row f1
      have b2 := bulk_lot hk l2.row f2
      refine Nat.le_trans (bulk_list (B := 5000) fun x hx => ?_) (by show 5001 * 3 ≤ 300000; decide)
      simp only [List.mem_cons, List.not_mem_nil, or_false] at hx
      rcases hx with rfl | rfl | rfl
      · exact b1
      · exact b2
      · exact Nat.le_trans (bulk_bool _) (by decide)
  -- the second like
  have q1 : Ev (fn_turned [lotD (Tn k (Tn k lot)), .int ((k + 1 : Nat) : Int)]) ms0 (lotD (Tn k lot)) ms0 := by
    have := turned_ev hk l2 (m := ms0)
    rwa [t3] at this
  have q2 : Ev (fn_closed [lotD (Tn k lot), .int ((k + 1 : Nat) : Int)]) ms0 (lotD (Tn k lot)) ms0 := by
    have := closed_ev hk l1 (m := ms0)
    rwa [t3] at this
  have q3 : Ev (fn_is_closed [lotD (Tn k lot), .int ((k + 1 : Nat) : Int)]) ms0 (.bool true) ms0 := by
    have := is_closed_ev hk l1 (m := ms0)
    rwa [decide_eq_true t3] at this
  have q4 : Ev (fn_is_closed [lotD (Tn k (Tn k lot)), .int ((k + 1 : Nat) : Int)]) ms0 (.bool true) ms0 := by
    have := is_closed_ev hk l2 (m := ms0)
    rwa [decide_eq_true (by rw [t3])] at this
  have c2 : Ev (tNot1 (tV asB (eCall fn__law_like (aC (eL mkL (aC (eCall fn_turned (aC (eVar 4) (aC (eVar 2) aN))) (aC (eCall fn_closed (aC (eVar 3) (aC (eVar 2) aN))) (aC (eCall fn_is_closed (aC (eVar 3) (aC (eVar 2) aN))) (aC (eCall fn_is_closed (aC (eVar 4) (aC (eVar 2) aN))) aN))))) (aC (eL mkL (aC (eVar 3) (aC (eVar 3) (aC (eC (.bool true)) (aC (eC (.bool true)) aN))))) aN)))) (E10 lot k (some (lotD (Tn k lot))) (some (lotD (Tn k (Tn k lot)))) none none none none none)) m false m := by
    refine v_not (o := true) (v_tV (v_call (v_aC (v_eL (v_aC (v_call (v_aC (v_var 4 rfl) (v_aC (v_var 2 rfl) v_aN)) q1) (v_aC (v_call (v_aC (v_var 3 rfl) (v_aC (v_var 2 rfl) v_aN)) q2) (v_aC (v_call (v_aC (v_var 3 rfl) (v_aC (v_var 2 rfl) v_aN)) q3) (v_aC (v_call (v_aC (v_var 4 rfl) (v_aC (v_var 2 rfl) v_aN)) q4) v_aN)))) rfl) (v_aC (v_eL (v_aC (v_var 3 rfl) (v_aC (v_var 3 rfl) (v_aC (v_c _) (v_aC (v_c _) v_aN)))) rfl) v_aN)) (like_x (n := 3) (by decide) ?_ ?_)) rfl)
    · show (plX 2 (lotD _) && (plX 2 (lotD _) && (true && (true && true)))) = true
      rw [plX_lot hk l1.row 0]
      rfl
    · have b1 := bulk_lot hk l1.row f1
      refine Nat.le_trans (bulk_list (B := 5000) fun x hx => ?_) (by show 5001 * 4 ≤ 300000; decide)
      simp only [List.mem_cons, List.not_mem_nil, or_false] at hx
      rcases hx with rfl | rfl | rfl | rfl
      · exact b1
      · exact b1
      · exact Nat.le_trans (bulk_bool _) (by decide)
      · exact Nat.le_trans (bulk_bool _) (by decide)
  -- the lot lies in its closed one
  have c3 : Ev (tV asB (e2 neD (lcF (iL seqT (eVar 1)) (gNm 9) (tV asB (e2 notInD (eVar 9) (eCall fn_closed (aC (eVar 1) (aC (eVar 2) aN))))) (eC (.int 1)) [9]) (eL mkL aN)) (E10 lot k (some (lotD (Tn k lot))) (some (lotD (Tn k (Tn k lot)))) none none none none none)) m false m :=
    none_out (a := lot) (v_var 1 rfl) fun r hr => v_e2 (v_var 9 rfl) (v_call (v_aC (v_var 1 rfl) (v_aC (v_var 2 rfl) v_aN)) (closed_ev hk h)) (by rw [notIn_lot, decide_eq_true (Tn_two h.row r hr)]; rfl)
  -- the greater lot
  have cat : Ev (e2 catD (eL (one1 listD) (aC (eVar 1) aN)) (eL mkL (aC (eCallM fn__law_parting (aC (eVar 2) aN)) aN)) (E10 lot k (some (lotD (Tn k lot))) (some (lotD (Tn k (Tn k lot)))) none none none none none)) m (.list ((lot ++ [one]).map rowD)) m1 := by
    refine v_e2 (v_eL (v_aC (v_var 1 rfl) v_aN) rfl) (v_eL (v_aC (v_callM (v_aC (v_var 2 rfl) v_aN) eo) v_aN) rfl) ?_
    show (if (lot.map rowD).length + 1 ≤ lineN then some (PyData.list (lot.map rowD ++ [rowD one])) else none) = _
    rw [if_pos (by rw [List.length_map]; show _ ≤ 16000000; omega), List.map_append]
    rfl
  have s5 : Ev (sSet 5 (eCall fn__law_lot_from (aC (e2 catD (eL (one1 listD) (aC (eVar 1) aN)) (eL mkL (aC (eCallM fn__law_parting (aC (eVar 2) aN)) aN))) aN)) (E10 lot k (some (lotD (Tn k lot))) (some (lotD (Tn k (Tn k lot)))) none none none none none)) m (.nx (E10 lot k (some (lotD (Tn k lot))) (some (lotD (Tn k (Tn k lot)))) (some (lotD more)) none none none none)) m1 := v_set 5 (v_call (v_aC cat v_aN) em)
  have s78 : Ev (sAsg (gTp 2 (gC (gNm 7) (gC (gNm 8) gN0))) (eL mkT (aC (eCall fn_turned (aC (eVar 5) (aC (eVar 2) aN))) (aC (eCall fn_closed (aC (eVar 5) (aC (eVar 2) aN))) aN))) (E10 lot k (some (lotD (Tn k lot))) (some (lotD (Tn k (Tn k lot)))) (some (lotD more)) none none none none)) m1 (.nx (E10 lot k (some (lotD (Tn k lot))) (some (lotD (Tn k (Tn k lot)))) (some (lotD more)) none (some (lotD (Tn k more))) (some (lotD (Tn k (Tn k more)))) none)) m1 :=
    v_asg (v_eL (v_aC (v_call (v_aC (v_var 5 rfl) (v_aC (v_var 2 rfl) v_aN)) (turned_ev hk lm)) (v_aC (v_call (v_aC (v_var 5 rfl) (v_aC (v_var 2 rfl) v_aN)) (closed_ev hk lm)) v_aN)) rfl) (v_gTp2 7 8 _ _ _ m1)
  have c4 : Ev (tOr2 (tV asB (e2 neD (lcF (iL seqT (eVar 7)) (gNm 9) (tV asB (e2 notInD (eVar 9) (eVar 3))) (eC (.int 1)) [9]) (eL mkL aN))) (tV asB (e2 neD (lcF (iL seqT (eVar 4)) (gNm 9) (tV asB (e2 notInD (eVar 9) (eVar 8))) (eC (.int 1)) [9]) (eL mkL aN))) (E10 lot k (some (lotD (Tn k lot))) (some (lotD (Tn k (Tn k lot)))) (some (lotD more)) none (some (lotD (Tn k more))) (some (lotD (Tn k (Tn k more)))) none)) m1 false m1 :=
    v_orF (none_out (a := Tn k more) (v_var 7 rfl) fun r hr => v_e2 (v_var 9 rfl) (v_var 3 rfl) (by rw [notIn_lot, decide_eq_true (Tn_sub sub r hr)]; rfl))
      (none_out (a := Tn k (Tn k lot)) (v_var 4 rfl) fun r hr => v_e2 (v_var 9 rfl) (v_var 8 rfl) (by rw [notIn_lot, decide_eq_true (Tn_sub (Tn_sub sub) r hr)]; rfl))
  -- sizes
  have s6 : Ev (sSetO 6 (lcF (iL seqT (eVar 5)) (gNm 9) tYs (eL (one1 maxV) (aC (eVar 9) aN)) [9]) (E10 lot k (some (lotD (Tn k lot))) (some (lotD (Tn k (Tn k lot)))) (some (lotD more)) none (some (lotD (Tn k more))) (some (lotD (Tn k (Tn k more)))) none)) m1 (.nx (E10 lot k (some (lotD (Tn k lot))) (some (lotD (Tn k (Tn k lot)))) (some (lotD more)) (some (.list ((more.map sz).map .int))) (some (lotD (Tn k more))) (some (lotD (Tn k (Tn k more)))) none)) m1 := by
    have hlc := v_lcG (f := lcStep (gNm 9) tYs (eL (one1 maxV) (aC (eVar 9) aN)) (wipeE (E10 lot k (some (lotD (Tn k lot))) (some (lotD (Tn k (Tn k lot)))) (some (lotD more)) none (some (lotD (Tn k more))) (some (lotD (Tn k (Tn k more)))) none) [9])) rowD (fun r => some (.int (sz r))) (m := m1) (as := more) fun r hr => v_stepT (v_gNm 9 _ _ m1) (v_tYs _ m1) (max0_ev ((lm.row r hr).isP (by omega)) rfl)
    have e : more.filterMap (fun r => some (PyData.int (sz r))) = (more.map sz).map .int := by
      rw [List.map_map]
      exact congrFun (List.filterMap_eq_map (f := fun r => PyData.int (sz r))) more
    rw [e] at hlc
    exact v_setO 6 (v_lc (v_iL (v_var 5 rfl) rfl) hlc (by rw [List.length_map, List.length_map]; show _ ≤ 16000000; omega)) (by show 6 < 10; decide)
  have hmem : one ∈ more := (mm one).mpr (List.mem_append_right _ List.mem_cons_self)
  have hpos : 0 < more.length := List.length_pos_of_mem hmem
  have fin : Ev (sRet (eOr (e2 eqD (eVar 2) (eC (.int 1))) (eOr (e2 eqD (eTy tyL cntD (eVar 6) (e2 ixD (eVar 6) (eC (.int 0)))) (eL (one1 lenD) (aC (eVar 6) aN))) (eAnd (e2 eqD (eVar 7) (eL mkT aN)) (e2 eqD (eL (one1 lenD) (aC (eVar 8) aN)) (eL (one1 lenD) (aC (eCall fn__law_partings (aC (eVar 2) aN)) aN)))))) (E10 lot k (some (lotD (Tn k lot))) (some (lotD (Tn k (Tn k lot)))) (some (lotD more)) (some (.list ((more.map sz).map .int))) (some (lotD (Tn k more))) (some (lotD (Tn k (Tn k more)))) none)) m1 (.rt (.bool true)) m1 := by
    refine v_ret ?_
    by_cases k0 : k = 0
    · exact v_eOrT (v_e2 (v_var 2 rfl) (v_c _) (eqT (by omega)))
    · refine v_eOrF (v_e2 (v_var 2 rfl) (v_c _) (eqF (by omega))) ?_
      have hix : ixD (.list ((more.map sz).map .int)) (.int ((0 : Nat) : Int)) = some (.int ((more.map sz).getD 0 0)) := ixLi (by rw [List.length_map]; exact hpos)
      have hcnt : cntD (.list ((more.map sz).map .int)) (.int ((more.map sz).getD 0 0)) = some (.int ((more.map sz).count ((more.map sz).getD 0 0) : Nat)) := by
        show (intsD ((more.map sz).map .int)).bind _ = _
        rw [intsD_ints]
        rfl
      have hlen : one1 lenD [.list ((more.map sz).map .int)] = some (.int (more.length : Nat)) := by
        show some (PyData.int (((more.map sz).map PyData.int).length : Nat)) = _
        rw [List.length_map, List.length_map]
      by_cases ce : (more.map sz).count ((more.map sz).getD 0 0) = more.length
      · exact v_eOrT (v_e2 (v_eTy (v_var 6 rfl) rfl (v_e2 (v_var 6 rfl) (v_c _) hix) hcnt) (v_eL (v_aC (v_var 6 rfl) v_aN) hlen) (eqT (by omega)))
      · refine v_eOrF (v_e2 (v_eTy (v_var 6 rfl) rfl (v_e2 (v_var 6 rfl) (v_c _) hix) hcnt) (v_eL (v_aC (v_var 6 rfl) v_aN) hlen) (eqF (by omega))) ?_
        have hne : ∃ r ∈ more, topN 0 r ≠ topN 0 more[0] := by
          refine Classical.byContradiction fun hno => ce ?_
          have hall : ∀ x ∈ more.map sz, (more.map sz).getD 0 0 = x := fun x hx => by
            obtain ⟨r, hr, rfl⟩ := List.mem_map.mp hx
            have : topN 0 r = topN 0 more[0] := Classical.byContradiction fun z => hno ⟨r, hr, z⟩
            rw [List.getD_eq_getElem?_getD, List.getElem?_map, List.getElem?_eq_getElem hpos]
            show sz more[0] = sz r
            unfold sz
            rw [this]
          have := List.count_eq_length.mpr hall
          rwa [List.length_map] at this
        obtain ⟨r, hr, hne⟩ := hne
        have tn : Tn k more = [] := Tn_unlike hr (List.getElem_mem hpos) hne
        have lenA : one1 lenD [lotD (Tn k (Tn k more))] = some (.int ((rowsN k).length : Nat)) := by
          rw [tn, Tn_nil]
          show some (PyData.int (((rowsN k).map rowD).length : Nat)) = _
          rw [List.length_map]
        have lenB : one1 lenD [.list ((rowsN k).map rowD)] = some (.int ((rowsN k).length : Nat)) := by
          show some (PyData.int (((rowsN k).map rowD).length : Nat)) = _
          rw [List.length_map]
        refine v_eAndT (v_e2 (v_var 7 rfl) (v_eL v_aN rfl) ?_) (v_e2 (v_eL (v_aC (v_var 8 rfl) v_aN) lenA) (v_eL (v_aC (v_call (v_aC (v_var 2 rfl) v_aN) (law_partings_ev (by omega))) v_aN) lenB) (eqT rfl))
        have := eqD_lot (Tn k more) []
        rwa [decide_eq_true tn] at this
  refine ⟨m1, v_runR (v_sq s3 (v_sq s4 (v_sq (v_sIfF c1 v_nx) (v_sq (v_sIfF c2 v_nx) (v_sq (v_sIfF c3 v_nx) (v_sq s5 (v_sq s78 (v_sq (v_sIfF c4 v_nx) (v_sq s6 fin))))))))), hm1.mono (by omega)⟩
end K15
set_option maxHeartbeats 1000000
namespace K15
open PySem L2 VL K01
/-! ### computed lots -/
def TnC (k : Nat) (lot : List (List Nat)) : List (List Nat) := (rowsN k).filter fun r => lot.all fun o => treeC r o
theorem Tn_C {k : Nat} (hk : k < 6) {lot : List (List Nat)} (h : ∀ r ∈ lot, Row k r) : Tn k lot = TnC k lot := by
  unfold Tn TnC
  refine List.filter_congr fun r hr => ?_
  have hr := Row.mem.mp hr
  rw [Bool.eq_iff_iff, List.all_eq_true, List.all_eq_true]
  constructor
  · intro z o ho
    rw [← treeB_C (hr.isP (by omega)) ((h o ho).isP (by omega)) (by rw [hr.len, (h o ho).len])]
    exact z o ho
  · intro z o ho
    rw [treeB_C (hr.isP (by omega)) ((h o ho).isP (by omega)) (by rw [hr.len, (h o ho).len])]
    exact z o ho
theorem lot_nil {k : Nat} : Lot k [] := ⟨fun r h => (nomatch h), List.Pairwise.nil⟩
theorem row_of {k : Nat} {r : List Nat} (h : decide (r ∈ rowsN k) = true) : Row k r := Row.mem.mp (of_decide_eq_true h)
theorem lot_a : Lot 2 [[0, 0, 1]] := ⟨fun r h => by rw [List.mem_singleton.mp h]; exact row_of (by decide +kernel), List.pairwise_singleton _ _⟩
theorem lot_b : Lot 2 [[0, 0, 1], [0, 1, 0]] := ⟨fun r h => by
    rcases List.mem_cons.mp h with rfl | h
    · exact row_of (by decide +kernel)
    · rw [List.mem_singleton.mp h]; exact row_of (by decide +kernel), List.pairwise_cons.mpr ⟨fun r h => by rw [List.mem_singleton.mp h]; decide +kernel, List.pairwise_singleton _ _⟩⟩
theorem tn1 : Tn 0 [] = [[0]] := by rw [Tn_nil]; rfl
theorem tn2 : Tn 0 [[0]] = [[0]] := by
  rw [Tn_C (by decide) fun r h => by rw [List.mem_singleton.mp h]; exact row_of (by decide +kernel)]
  decide +kernel
theorem tn3 : Tn 1 (Tn 1 []) = [] := by
  rw [Tn_nil, Tn_C (by decide) fun r h => Row.mem.mp h]
  decide +kernel
theorem tn4 : Tn 2 [[0, 0, 1]] = [[0, 1, 0], [0, 1, 1]] := by
  rw [Tn_C (by decide) lot_a.row]
  decide +kernel
theorem tn5 : Tn 2 (Tn 2 [[0, 0, 1], [0, 1, 0]]) = [[0, 0, 1], [0, 1, 0]] := by
  rw [Tn_C (by decide) fun r h => (mem_Tn.mp h).1, Tn_C (by decide) lot_b.row]
  decide +kernel
/-! ### words and odd numbers -/
def wrongs : List D := [.int 0, .int 7, .int (-1), .bool true, .none, .str "3", .list [], .int (10 ^ 30)]
theorem sxs : strX "tuple" = true ∧ strX "parting" = true ∧ strX "order" = true ∧ strX "lot" = true ∧ strX "number" = true ∧ strX "let" = true ∧ strX "3" = true := by decide +kernel
theorem bulk_str' (x : Str) (h : (PyData.str x).bulk ≤ 50) : (PyData.str x).bulk ≤ 50 := h
theorem bxs : (PyData.str "tuple").bulk ≤ 50 ∧ (PyData.str "parting").bulk ≤ 50 ∧ (PyData.str "order").bulk ≤ 50 ∧ (PyData.str "lot").bulk ≤ 50 ∧ (PyData.str "number").bulk ≤ 50 ∧ (PyData.str "let").bulk ≤ 50 ∧ (PyData.str "3").bulk ≤ 50 := by
  simp only [PyData.bulk]
  decide +kernel
theorem wrong_ok : ∀ d ∈ wrongs, okT d = true ∧ withinD 1 6 d = false ∧ plX 1 d = true ∧ d.bulk ≤ 50 := by
  intro d hd
  unfold wrongs at hd
  simp only [List.mem_cons, List.not_mem_nil, or_false] at hd
  rcases hd with rfl | rfl | rfl | rfl | rfl | rfl | rfl | rfl
  · exact ⟨rfl, by decide +kernel, by decide +kernel, Nat.le_trans (bulk_int _) (by decide)⟩
  · exact ⟨rfl, by decide +kernel, by decide +kernel, Nat.le_trans (bulk_int _) (by decide)⟩
  · exact ⟨rfl, by decide +kernel, by decide +kernel, Nat.le_trans (bulk_int _) (by decide)⟩
  · exact ⟨rfl, rfl, rfl, Nat.le_trans (bulk_bool _) (by decide)⟩
  · exact ⟨rfl, rfl, rfl, by simp [PyData.bulk]⟩
  · exact ⟨rfl, rfl, sxs.2.2.2.2.2.2, bxs.2.2.2.2.2.2⟩
  · exact ⟨rfl, rfl, rfl, Nat.le_trans (bulk_list (B := 1) fun x hx => (nomatch hx)) (by decide)⟩
  · exact ⟨rfl, by decide +kernel, by decide +kernel, Nat.le_trans (bulk_int _) (by decide)⟩
theorem word_ok {k : Nat} {L : D} {w : Str} (h : BadOut k L w) : plX 1 (.str w) = true ∧ (PyData.str w).bulk ≤ 50 := by
  obtain ⟨_, rfl | rfl | rfl⟩ := h
  · exact ⟨sxs.1, bxs.1⟩
  · exact ⟨sxs.2.1, bxs.2.1⟩
  · exact ⟨sxs.2.2.1, bxs.2.2.1⟩
theorem two_ok {a : Str} {d : D} (ha : strX a = true) (hd : plX 2 d = true) : plX 3 (.tuple [.str a, d]) = true := by
  show (strX a && (plX 2 d && true)) = true
  rw [ha, hd]
  rfl
theorem two_bulk {a : Str} {d : D} {B : Nat} (ha : (PyData.str a).bulk ≤ 50) (hB : 50 ≤ B) (hd : d.bulk ≤ B) : (PyData.tuple [.str a, d]).bulk ≤ (B + 1) * 2 := by
  refine bulk_tuple fun x hx => ?_
  simp only [List.mem_cons, List.not_mem_nil, or_false] at hx
  rcases hx with rfl | rfl
  · omega
  · exact hd
theorem plX_up {d : D} (h : plX 1 d = true) : plX 2 d = true := by
  cases d with
  | list xs =>
    refine List.all_eq_true.mpr fun x hx => ?_
    have := List.all_eq_true.mp h x hx
    cases x <;> first | exact this | cases this
  | tuple xs =>
    refine List.all_eq_true.mpr fun x hx => ?_
    have := List.all_eq_true.mp h x hx
    cases x <;> first | exact this | cases this
  | dict _ => cases h
  | _ => exact h
end K15
set_option maxHeartbeats 1000000
namespace K15
open PySem L2 VL K01
abbrev E11 (S : D) (x2 x3 x4 x5 x6 x7 x8 x9 x10 : Option D) : SE := [some S, none, x2, x3, x4, x5, x6, x7, x8, x9, x10]
abbrev T1 : SE → M Ctl := sSet 4 (eCallM fn__law_of (aC (eL mkL (aC (eC (.int 1)) (aC (eC (.int 2)) (aC (eC (.int 3)) (aC (eC (.int 3)) (aC (eC (.int 4)) (aC (eC (.int 4)) (aC (eC (.int 4)) (aC (eC (.int 5)) (aC (eC (.int 5)) (aC (eC (.int 6)) aN))))))))))) aN))
abbrev T5 : SE → M Ctl := sPar 8 9 (aC (eCallM fn__law_draw (aC (eC (.int 4)) aN)) (aC (eCallM fn__law_of (aC (eL mkL (aC (eC (.int 0)) (aC (eC (.int 7)) (aC (e1 negD (eC (.int 1))) (aC (eC (.bool true)) (aC (eC .none) (aC (eC (.str "3")) (aC (eL mkL aN) (aC (e2 powD (eC (.int 10)) (eC (.int 30))) aN))))))))) aN)) aN))
abbrev T6 : SE → M Ctl := sSet 3 (eL mkL (aC (eCall fn__law_asked (aC (eVar 8) (aC (eVar 6) (aC (eVar 4) aN)))) (aC (eCall fn__law_asked (aC (eVar 8) (aC (eVar 6) (aC (eVar 9) aN)))) (aC (eCall fn__law_asked (aC (eVar 8) (aC (eVar 5) (aC (eVar 9) aN)))) aN))))
abbrev T7 : SE → M Bool := tNot1 (tV asB (eCall fn__law_like (aC (eVar 3) (aC (eL mkL (aC (eL mkT (aC (eC (.str "lot")) (aC (eVar 7) aN))) (aC (eL mkT (aC (eC (.str "number")) (aC (eVar 9) aN))) (aC (eL mkT (aC (eC (.str "number")) (aC (eVar 9) aN))) aN)))) aN))))
abbrev T9 : SE → M Bool := tNot1 (tV asB (eCall fn__law_like (aC (eL mkL (aC (eCall fn__law_asked (aC (eC (.int 0)) (aC (eVar 5) (aC (eVar 4) aN)))) (aC (eCall fn__law_asked (aC (eVar 8) (aC (eVar 10) (aC (eVar 4) aN)))) aN))) (aC (eL mkL (aC (eL mkT (aC (eC (.str "let")) (aC (eVar 5) aN))) (aC (eL mkT (aC (eC (.str "lot")) (aC (eVar 7) aN))) aN))) aN))))
abbrev Bd : SE → M Ctl := sq T1 (sq (sSet 5 (eCallM fn__law_some_lot (aC (eVar 4) aN))) (sq (sIf (tNot1 (tV asB (eCallM fn__law_right (aC (eVar 5) (aC (eVar 4) aN))))) (sRet (eC (.bool false))) sNx) (sq (sAsg (gTp 2 (gC (gNm 6) (gC (gNm 7) gN0))) (eCallM fn__law_bad_lot (aC (eVar 5) (aC (eVar 4) aN)))) (sq T5 (sq T6 (sq (sIf T7 (sRet (eC (.bool false))) sNx) (sq (sAsg (gTp 2 (gC (gNm 10) (gC (gNm 7) gN0))) (eCallM fn__law_twice_bad (aC (eVar 5) (aC (eVar 4) aN)))) (sIf T9 (sRet (eC (.bool false))) sNx))))))))
def manys : List Nat := [0, 1, 2, 2, 3, 3, 3, 4, 4, 5]
theorem many_ev {E : SE} {m : MS} {b : Nat} (hm : Mk m b) (hb : b < 20000) : ∃ k m', k < 6 ∧ Ev (eCallM fn__law_of (aC (eL mkL (aC (eC (.int 1)) (aC (eC (.int 2)) (aC (eC (.int 3)) (aC (eC (.int 3)) (aC (eC (.int 4)) (aC (eC (.int 4)) (aC (eC (.int 4)) (aC (eC (.int 5)) (aC (eC (.int 5)) (aC (eC (.int 6)) aN))))))))))) aN) E) m (.int ((k + 1 : Nat) : Int)) m' ∧ Mk m' (b + 1) := by
  obtain ⟨j, hj, m', e, hm'⟩ := of_list (xs := manys.map fun k => .int ((k + 1 : Nat) : Int)) hm (by omega) (by show 0 < 10; decide) (by show 10 < 100000; decide)
  rw [List.getElem_map] at e
  have hall : ∀ x ∈ manys, x < 6 := by decide
  have dis : Ev (eL mkL (aC (eC (.int 1)) (aC (eC (.int 2)) (aC (eC (.int 3)) (aC (eC (.int 3)) (aC (eC (.int 4)) (aC (eC (.int 4)) (aC (eC (.int 4)) (aC (eC (.int 5)) (aC (eC (.int 5)) (aC (eC (.int 6)) aN)))))))))) E) m (.list (manys.map fun k => .int ((k + 1 : Nat) : Int))) m := rfl
  exact ⟨_, m', hall _ (List.getElem_mem _), v_callM (v_aC dis v_aN) e, hm'⟩
theorem wrong_ev {E : SE} {m : MS} {b : Nat} (hm : Mk m b) (hb : b < 20000) : ∃ d ∈ wrongs, ∃ m', Ev (eCallM fn__law_of (aC (eL mkL (aC (eC (.int 0)) (aC (eC (.int 7)) (aC (e1 negD (eC (.int 1))) (aC (eC (.bool true)) (aC (eC .none) (aC (eC (.str "3")) (aC (eL mkL aN) (aC (e2 powD (eC (.int 10)) (eC (.int 30))) aN))))))))) aN) E) m d m' ∧ Mk m' (b + 1) := by
  obtain ⟨j, hj, m', e, hm'⟩ := of_list (xs := wrongs) hm (by omega) (by show 0 < 8; decide) (by show 8 < 100000; decide)
  have dis : Ev (eL mkL (aC (eC (.int 0)) (aC (eC (.int 7)) (aC (e1 negD (eC (.int 1))) (aC (eC (.bool true)) (aC (eC .none) (aC (eC (.str "3")) (aC (eL mkL aN) (aC (e2 powD (eC (.int 10)) (eC (.int 30))) aN)))))))) E) m (.list wrongs) m :=
    v_eL (v_aC (v_c _) (v_aC (v_c _) (v_aC (v_e1 (v_c _) rfl) (v_aC (v_c _) (v_aC (v_c _) (v_aC (v_c _) (v_aC (v_eL v_aN rfl) (v_aC (v_e2 (v_c _) (v_c _) (show powD (.int 10) (.int 30) = some (.int (10 ^ 30)) by rfl)) v_aN)))))))) rfl
  exact ⟨_, List.getElem_mem hj, m', v_callM (v_aC dis v_aN) e, hm'⟩
theorem turn_ev {S : D} {x2 x3 x4 x5 x6 x7 x8 x9 x10 : Option D} {m : MS} {b : Nat} (hm : Mk m b) (hb : b < 10000) : ∃ y3 y4 y5 y6 y7 y8 y9 y10 m', Ev (Bd (E11 S x2 x3 x4 x5 x6 x7 x8 x9 x10)) m (.nx (E11 S x2 y3 y4 y5 y6 y7 y8 y9 y10)) m' ∧ Mk m' (b + 1000) := by
  obtain ⟨k, m1, hk, e1', hm1⟩ := many_ev (E := E11 S x2 x3 x4 x5 x6 x7 x8 x9 x10) hm (by omega)
  obtain ⟨lot, m2, e2', hlot, hl5, hm2⟩ := some_lot_ev hk hm1 (by omega)
  obtain ⟨m3, e3', hm3⟩ := right_ev hk hlot hl5 hm2 (by omega)
  obtain ⟨L, w, m4, e4', hbad, hm4⟩ := bad_lot_ev hk hlot hl5 hm3 (by omega)
  obtain ⟨i, m5, e5', hi, hm5⟩ := draw_nat (L := 4) hm4 (by omega) (by decide) (by decide)
  obtain ⟨wr, hwr, m6, e6', hm6⟩ := wrong_ev (E := E11 S x2 x3 (some (.int ((k + 1 : Nat) : Int))) (some (lotD lot)) (some L) (some (.str w)) x8 x9 x10) hm5 (by omega)
  obtain ⟨L2, w2, m7, e7', hbad2, hm7⟩ := twice_bad_ev hk hlot hl5 hm6 (by omega)
  obtain ⟨o1, o2, o3, o4⟩ := wrong_ok wr hwr
  obtain ⟨p1, p2⟩ := word_ok hbad
  obtain ⟨p3, p4⟩ := word_ok hbad2
  have st1 : Ev (T1 (E11 S x2 x3 x4 x5 x6 x7 x8 x9 x10)) m (.nx (E11 S x2 x3 (some (.int ((k + 1 : Nat) : Int))) x5 x6 x7 x8 x9 x10)) m1 := v_set 4 e1'
  have st2 : Ev (sSet 5 (eCallM fn__law_some_lot (aC (eVar 4) aN)) (E11 S x2 x3 (some (.int ((k + 1 : Nat) : Int))) x5 x6 x7 x8 x9 x10)) m1 (.nx (E11 S x2 x3 (some (.int ((k + 1 : Nat) : Int))) (some (lotD lot)) x6 x7 x8 x9 x10)) m2 := v_set 5 (v_callM (v_aC (v_var 4 rfl) v_aN) e2')
  have st3 : Ev (sIf (tNot1 (tV asB (eCallM fn__law_right (aC (eVar 5) (aC (eVar 4) aN))))) (sRet (eC (.bool false))) sNx (E11 S x2 x3 (some (.int ((k + 1 : Nat) : Int))) (some (lotD lot)) x6 x7 x8 x9 x10)) m2 (.nx (E11 S x2 x3 (some (.int ((k + 1 : Nat) : Int))) (some (lotD lot)) x6 x7 x8 x9 x10)) m3 :=
    v_sIfF (v_not (o := true) (v_tV (v_callM (v_aC (v_var 5 rfl) (v_aC (v_var 4 rfl) v_aN)) e3') rfl)) v_nx
  have st4 : Ev (sAsg (gTp 2 (gC (gNm 6) (gC (gNm 7) gN0))) (eCallM fn__law_bad_lot (aC (eVar 5) (aC (eVar 4) aN))) (E11 S x2 x3 (some (.int ((k + 1 : Nat) : Int))) (some (lotD lot)) x6 x7 x8 x9 x10)) m3 (.nx (E11 S x2 x3 (some (.int ((k + 1 : Nat) : Int))) (some (lotD lot)) (some L) (some (.str w)) x8 x9 x10)) m4 :=
    v_asg (v_callM (v_aC (v_var 5 rfl) (v_aC (v_var 4 rfl) v_aN)) e4') (v_gTp2 6 7 _ _ _ m4)
  have st5 : Ev (T5 (E11 S x2 x3 (some (.int ((k + 1 : Nat) : Int))) (some (lotD lot)) (some L) (some (.str w)) x8 x9 x10)) m4 (.nx (E11 S x2 x3 (some (.int ((k + 1 : Nat) : Int))) (some (lotD lot)) (some L) (some (.str w)) (some (.int (i : Nat))) (some wr) x10)) m6 :=
    v_par 8 9 (v_aC (v_callM (v_aC (v_c _) v_aN) e5') (v_aC e6' v_aN))
  have st6 : Ev (T6 (E11 S x2 x3 (some (.int ((k + 1 : Nat) : Int))) (some (lotD lot)) (some L) (some (.str w)) (some (.int (i : Nat))) (some wr) x10)) m6 (.nx (E11 S x2 (some (.list [.tuple [.str "lot", .str w], .tuple [.str "number", wr], .tuple [.str "number", wr]])) (some (.int ((k + 1 : Nat) : Int))) (some (lotD lot)) (some L) (some (.str w)) (some (.int (i : Nat))) (some wr) x10)) m6 :=
    v_set 3 (v_eL (v_aC (v_call (v_aC (v_var 8 rfl) (v_aC (v_var 6 rfl) (v_aC (v_var 4 rfl) v_aN))) (asked_lot hi hk hbad.1)) (v_aC (v_call (v_aC (v_var 8 rfl) (v_aC (v_var 6 rfl) (v_aC (v_var 9 rfl) v_aN))) (asked_num hi o1 o2)) (v_aC (v_call (v_aC (v_var 8 rfl) (v_aC (v_var 5 rfl) (v_aC (v_var 9 rfl) v_aN))) (asked_num hi o1 o2)) v_aN))) rfl)
  have lk1 : Ev (fn__law_like [.list [.tuple [.str "lot", .str w], .tuple [.str "number", wr], .tuple [.str "number", wr]], .list [.tuple [.str "lot", .str w], .tuple [.str "number", wr], .tuple [.str "number", wr]]]) ms0 (.bool true) ms0 := by
    refine like_x (n := 4) (by decide) ?_ ?_
    · show (plX 3 _ && (plX 3 _ && (plX 3 _ && true))) = true
      rw [two_ok sxs.2.2.2.1 (plX_up p1), two_ok sxs.2.2.2.2.1 (plX_up o3)]
      rfl
    · refine Nat.le_trans (bulk_list (B := 102) fun x hx => ?_) (by show 103 * 3 ≤ 300000; decide)
      simp only [List.mem_cons, List.not_mem_nil, or_false] at hx
      rcases hx with rfl | rfl | rfl
      · exact two_bulk bxs.2.2.2.1 (Nat.le_refl _) p2
      · exact two_bulk bxs.2.2.2.2.1 (Nat.le_refl _) o4
      · exact two_bulk bxs.2.2.2.2.1 (Nat.le_refl _) o4
  have st7 : Ev (sIf T7 (sRet (eC (.bool false))) sNx (E11 S x2 (some (.list [.tuple [.str "lot", .str w], .tuple [.str "number", wr], .tuple [.str "number", wr]])) (some (.int ((k + 1 : Nat) : Int))) (some (lotD lot)) (some L) (some (.str w)) (some (.int (i : Nat))) (some wr) x10)) m6 (.nx (E11 S x2 (some (.list [.tuple [.str "lot", .str w], .tuple [.str "number", wr], .tuple [.str "number", wr]])) (some (.int ((k + 1 : Nat) : Int))) (some (lotD lot)) (some L) (some (.str w)) (some (.int (i : Nat))) (some wr) x10)) m6 :=
    v_sIfF (v_not (o := true) (v_tV (v_call (v_aC (v_var 3 rfl) (v_aC (v_eL (v_aC (v_eL (v_aC (v_c _) (v_aC (v_var 7 rfl) v_aN)) rfl) (v_aC (v_eL (v_aC (v_c _) (v_aC (v_var 9 rfl) v_aN)) rfl) (v_aC (v_eL (v_aC (v_c _) (v_aC (v_var 9 rfl) v_aN)) rfl) v_aN))) rfl) v_aN)) lk1) rfl)) v_nx
  have st8 : Ev (sAsg (gTp 2 (gC (gNm 10) (gC (gNm 7) gN0))) (eCallM fn__law_twice_bad (aC (eVar 5) (aC (eVar 4) aN))) (E11 S x2 (some (.list [.tuple [.str "lot", .str w], .tuple [.str "number", wr], .tuple [.str "number", wr]])) (some (.int ((k + 1 : Nat) : Int))) (some (lotD lot)) (some L) (some (.str w)) (some (.int (i : Nat))) (some wr) x10)) m6 (.nx (E11 S x2 (some (.list [.tuple [.str "lot", .str w], .tuple [.str "number", wr], .tuple [.str "number", wr]])) (some (.int ((k + 1 : Nat) : Int))) (some (lotD lot)) (some L) (some (.str w2)) (some (.int (i : Nat))) (some wr) (some L2))) m7 :=
    v_asg (v_callM (v_aC (v_var 5 rfl) (v_aC (v_var 4 rfl) v_aN)) e7') (v_gTp2 10 7 _ _ _ m7)
  have lk2 : Ev (fn__law_like [.list [.tuple [.str "let", lotD lot], .tuple [.str "lot", .str w2]], .list [.tuple [.str "let", lotD lot], .tuple [.str "lot", .str w2]]]) ms0 (.bool true) ms0 := by
    refine like_x (n := 4) (by decide) ?_ ?_
    · show (plX 3 _ && (plX 3 _ && true)) = true
      rw [two_ok sxs.2.2.2.2.2.1 (plX_lot hk hlot.row 0), two_ok sxs.2.2.2.1 (plX_up p3)]
      rfl
    · refine Nat.le_trans (bulk_list (B := 10002) fun x hx => ?_) (by show 10003 * 2 ≤ 300000; decide)
      simp only [List.mem_cons, List.not_mem_nil, or_false] at hx
      rcases hx with rfl | rfl
      · exact two_bulk (B := 5000) bxs.2.2.2.2.2.1 (by decide) (bulk_lot hk hlot.row (by omega))
      · exact Nat.le_trans (two_bulk bxs.2.2.2.1 (Nat.le_refl _) p4) (by decide)
  have st9 : Ev (sIf T9 (sRet (eC (.bool false))) sNx (E11 S x2 (some (.list [.tuple [.str "lot", .str w], .tuple [.str "number", wr], .tuple [.str "number", wr]])) (some (.int ((k + 1 : Nat) : Int))) (some (lotD lot)) (some L) (some (.str w2)) (some (.int (i : Nat))) (some wr) (some L2))) m7 (.nx (E11 S x2 (some (.list [.tuple [.str "lot", .str w], .tuple [.str "number", wr], .tuple [.str "number", wr]])) (some (.int ((k + 1 : Nat) : Int))) (some (lotD lot)) (some L) (some (.str w2)) (some (.int (i : Nat))) (some wr) (some L2))) m7 :=
    v_sIfF (v_not (o := true) (v_tV (v_call (v_aC (v_eL (v_aC (v_call (v_aC (v_c _) (v_aC (v_var 5 rfl) (v_aC (v_var 4 rfl) v_aN))) (asked_let hk hlot)) (v_aC (v_call (v_aC (v_var 8 rfl) (v_aC (v_var 10 rfl) (v_aC (v_var 4 rfl) v_aN))) (asked_lot hi hk hbad2.1)) v_aN)) rfl) (v_aC (v_eL (v_aC (v_eL (v_aC (v_c _) (v_aC (v_var 5 rfl) v_aN)) rfl) (v_aC (v_eL (v_aC (v_c _) (v_aC (v_var 7 rfl) v_aN)) rfl) v_aN)) rfl) v_aN)) lk2) rfl)) v_nx
  exact ⟨_, _, _, _, _, _, _, _, m7, v_sq st1 (v_sq st2 (v_sq st3 (v_sq st4 (v_sq st5 (v_sq st6 (v_sq st7 (v_sq st8 st9))))))), hm7.mono (by omega)⟩
end K15
set_option maxHeartbeats 1000000
namespace K15
open PySem L2 VL K01
abbrev A1 : SE → M D := eL mkL (aC (eCall fn_turned (aC (eL mkT aN) (aC (eC (.int 1)) aN))) (aC (eCall fn_closed (aC (eL mkT aN) (aC (eC (.int 1)) aN))) (aC (eCall fn_is_closed (aC (eL mkT aN) (aC (eC (.int 1)) aN))) (aC (eCall fn_closed (aC (eL mkT aN) (aC (eC (.int 2)) aN))) (aC (eCall fn_turned (aC (eL mkT (aC (eL mkT (aC (eC (.int 0)) (aC (eC (.int 0)) (aC (eC (.int 1)) aN)))) aN)) (aC (eC (.int 3)) aN))) aN)))))
abbrev A2 : SE → M D := eL mkL (aC (eL mkT (aC (eL mkT (aC (eC (.int 0)) aN)) aN)) (aC (eL mkT (aC (eL mkT (aC (eC (.int 0)) aN)) aN)) (aC (eC (.bool false)) (aC (eL mkT aN) (aC (eL mkT (aC (eL mkT (aC (eC (.int 0)) (aC (eC (.int 1)) (aC (eC (.int 0)) aN)))) (aC (eL mkT (aC (eC (.int 0)) (aC (eC (.int 1)) (aC (eC (.int 1)) aN)))) aN))) aN)))))
def due : D := .list [lotD [[0]], lotD [[0]], .bool false, lotD [], lotD [[0, 1, 0], [0, 1, 1]]]
theorem a1_ev {E : SE} {m : MS} : Ev (A1 E) m due m := by
  have q1 : Ev (fn_turned [.tuple [], .int 1]) ms0 (lotD [[0]]) ms0 := by
    have := turned_ev (k := 0) (by decide) lot_nil (m := ms0)
    rw [tn1] at this
    exact this
  have q2 : Ev (fn_closed [.tuple [], .int 1]) ms0 (lotD [[0]]) ms0 := by
    have := closed_ev (k := 0) (by decide) lot_nil (m := ms0)
    rw [tn1, tn2] at this
    exact this
  have q3 : Ev (fn_is_closed [.tuple [], .int 1]) ms0 (.bool false) ms0 := by
    have := is_closed_ev (k := 0) (by decide) lot_nil (m := ms0)
    rw [tn1, tn2, decide_eq_false (by decide)] at this
    exact this
  have q4 : Ev (fn_closed [.tuple [], .int 2]) ms0 (lotD []) ms0 := by
    have := closed_ev (k := 1) (by decide) lot_nil (m := ms0)
    rw [tn3] at this
    exact this
  have q5 : Ev (fn_turned [.tuple [.tuple [.int 0, .int 0, .int 1]], .int 3]) ms0 (lotD [[0, 1, 0], [0, 1, 1]]) ms0 := by
    have := turned_ev (k := 2) (by decide) lot_a (m := ms0)
    rw [tn4] at this
    exact this
  exact v_eL (v_aC (v_call (v_aC (v_eL v_aN rfl) (v_aC (v_c _) v_aN)) q1) (v_aC (v_call (v_aC (v_eL v_aN rfl) (v_aC (v_c _) v_aN)) q2) (v_aC (v_call (v_aC (v_eL v_aN rfl) (v_aC (v_c _) v_aN)) q3) (v_aC (v_call (v_aC (v_eL v_aN rfl) (v_aC (v_c _) v_aN)) q4)
    (v_aC (v_call (v_aC (v_eL (v_aC (v_eL (v_aC (v_c _) (v_aC (v_c _) (v_aC (v_c _) v_aN))) rfl) v_aN) rfl) (v_aC (v_c _) v_aN)) q5) v_aN))))) rfl
theorem a2_ev {E : SE} {m : MS} : Ev (A2 E) m due m := rfl
theorem like_due : Ev (fn__law_like [due, due]) ms0 (.bool true) ms0 := by
  refine like_x (n := 4) (by decide) ?_ ?_
  · have a1 : plX 3 (lotD [[0]]) = true := plX_lot (k := 0) (by decide) (fun r h => by rw [List.mem_singleton.mp h]; exact row_of (by decide +kernel)) 1
    have a2 : plX 3 (lotD []) = true := plX_lot (k := 0) (lot := []) (by decide) (fun r h => (nomatch h)) 1
    have a3 : plX 3 (lotD [[0, 1, 0], [0, 1, 1]]) = true := plX_lot (k := 2) (by decide) (fun r h => (mem_Tn.mp (by rw [tn4]; exact h : r ∈ Tn 2 [[0, 0, 1]])).1) 1
    show List.all [lotD [[0]], lotD [[0]], .bool false, lotD [], lotD [[0, 1, 0], [0, 1, 1]]] (plX 3) = true
    refine List.all_eq_true.mpr fun x hx => ?_
    simp only [List.mem_cons, List.not_mem_nil, or_false] at hx
    rcases hx with rfl | rfl | rfl | rfl | rfl
    · exact a1
    · exact a1
    · rfl
    · exact a2
    · exact a3
  · refine Nat.le_trans (bulk_list (B := 5000) fun x hx => ?_) (by show 5001 * 5 ≤ 300000; decide)
    simp only [List.mem_cons, List.not_mem_nil, or_false] at hx
    rcases hx with rfl | rfl | rfl | rfl | rfl
    · exact bulk_lot (k := 0) (by decide) (fun r h => by rw [List.mem_singleton.mp h]; exact row_of (by decide +kernel)) (by decide)
    · exact bulk_lot (k := 0) (by decide) (fun r h => by rw [List.mem_singleton.mp h]; exact row_of (by decide +kernel)) (by decide)
    · exact Nat.le_trans (bulk_bool _) (by decide)
    · exact bulk_lot (k := 0) (lot := []) (by decide) (fun r h => (nomatch h)) (by decide)
    · exact bulk_lot (k := 2) (by decide) (fun r h => (mem_Tn.mp (by rw [tn4]; exact h : r ∈ Tn 2 [[0, 0, 1]])).1) (by decide)
theorem fin_ev {E : SE} {m : MS} : Ev (sRet (eCall fn__law_like (aC (eCall fn_closed (aC (eL mkT (aC (eL mkT (aC (eC (.int 0)) (aC (eC (.int 0)) (aC (eC (.int 1)) aN)))) (aC (eL mkT (aC (eC (.int 0)) (aC (eC (.int 1)) (aC (eC (.int 0)) aN)))) aN))) (aC (eC (.int 3)) aN))) (aC (eL mkT (aC (eL mkT (aC (eC (.int 0)) (aC (eC (.int 0)) (aC (eC (.int 1)) aN)))) (aC (eL mkT (aC (eC (.int 0)) (aC (eC (.int 1)) (aC (eC (.int 0)) aN)))) aN))) aN))) E) m (.rt (.bool true)) m := by
  have q : Ev (fn_closed [.tuple [.tuple [.int 0, .int 0, .int 1], .tuple [.int 0, .int 1, .int 0]], .int 3]) ms0 (lotD [[0, 0, 1], [0, 1, 0]]) ms0 := by
    have := closed_ev (k := 2) (by decide) lot_b (m := ms0)
    rw [tn5] at this
    exact this
  have lk : Ev (fn__law_like [lotD [[0, 0, 1], [0, 1, 0]], lotD [[0, 0, 1], [0, 1, 0]]]) ms0 (.bool true) ms0 :=
    like_x (n := 2) (by decide) (plX_lot (k := 2) (by decide) lot_b.row 0) (Nat.le_trans (bulk_lot (k := 2) (by decide) lot_b.row (by decide)) (by decide))
  have dis : ∀ m : MS, Ev (eL mkT (aC (eL mkT (aC (eC (.int 0)) (aC (eC (.int 0)) (aC (eC (.int 1)) aN)))) (aC (eL mkT (aC (eC (.int 0)) (aC (eC (.int 1)) (aC (eC (.int 0)) aN)))) aN)) E) m (lotD [[0, 0, 1], [0, 1, 0]]) m := fun m => rfl
  exact v_ret (v_call (v_aC (v_call (v_aC (dis m) (v_aC (v_c _) v_aN)) q) (v_aC (dis m) v_aN)) lk)
theorem law_ev : LawEv := by
  intro ns cells great hns hc
  have hm0 : Mk (cells, great, 0) 0 := ⟨hc, Int.le_refl _, Int.le_refl _⟩
  let I : Nat → SE → MS → Prop := fun i en m => Mk m (1000 * i) ∧ i ≤ 4 ∧ ∃ x2 x3 x4 x5 x6 x7 x8 x9 x10, en = E11 (.list (ns.map .int)) x2 x3 x4 x5 x6 x7 x8 x9 x10
  have hmin : ∃ t : Nat, t ≤ 3 ∧ min2D (.int (ns.length : Nat)) (.int 3) = some (.int (t : Nat)) := by
    refine ⟨min ns.length 3, by omega, ?_⟩
    show some (PyData.int (if (3 : Int) < (ns.length : Nat) then 3 else (ns.length : Nat))) = _
    congr 2
    split <;> omega
  obtain ⟨t, ht, hmin⟩ := hmin
  have rng : Ev (iA rng1 (aC (e2 addD (eC (.int 1)) (eL (two2 min2D) (aC (eL (one1 lenD) (aC (eVar 0) aN)) (aC (eC (.int 3)) aN)))) aN) (enLaw ns)) (cells, great, 0) (rngI 0 (1 + t)) (cells, great, 0) := by
    refine v_iA (v_aC (v_e2 (v_c _) (v_eL (v_aC (v_eL (v_aC (v_var 0 rfl) v_aN) (show one1 lenD [.list (ns.map .int)] = some (.int (ns.length : Nat)) by show some (PyData.int ((ns.map PyData.int).length : Nat)) = _; rw [List.length_map])) (v_aC (v_c _) v_aN)) hmin) rfl) v_aN) ?_
    have := rng1_n (n := 1 + t) (by omega)
    rwa [show ((1 + t : Nat) : Int) = 1 + (t : Nat) by omega] at this
  obtain ⟨e', m', hloop, hm', _, x2, x3, x4, x5, x6, x7, x8, x9, x10, rfl⟩ := v_loop I (Gt := gNm 2) (B := Bd) (rngI 0 (1 + t)) 0 (enLaw ns) (cells, great, 0) ⟨hm0, by decide, none, none, none, none, none, none, none, none, none, rfl⟩ (by
    rintro j d en m hd ⟨hm, hj4, x2, x3, x4, x5, x6, x7, x8, x9, x10, rfl⟩
    obtain ⟨hj, rfl⟩ := rngI_inv hd
    obtain ⟨y3, y4, y5, y6, y7, y8, y9, y10, m', h1, h2⟩ := turn_ev (S := .list (ns.map .int)) (x2 := some (.int (0 + (j : Nat)))) (x3 := x3) (x4 := x4) (x5 := x5) (x6 := x6) (x7 := x7) (x8 := x8) (x9 := x9) (x10 := x10) hm (by omega)
    exact ⟨_, m, _, m', v_gNm 2 _ _ m, .inl h1, h2.mono (by omega), by omega, _, _, _, _, _, _, _, _, _, rfl⟩)
  refine ⟨m', ?_⟩
  show Ev (sq (sFor _ (gNm 2) Bd) (sq (sSet 3 A1) (sq (sIf (tNot1 (tV asB (eCall fn__law_like (aC (eVar 3) (aC A2 aN))))) (sRet (eC (.bool false))) sNx) _)) (enLaw ns)) _ _ _
  have s3 : Ev (sSet 3 A1 (E11 (.list (ns.map .int)) x2 x3 x4 x5 x6 x7 x8 x9 x10)) m' (.nx (E11 (.list (ns.map .int)) x2 (some due) x4 x5 x6 x7 x8 x9 x10)) m' := v_set 3 a1_ev
  exact v_sq (v_for rng hloop) (v_sq s3 (v_sq (v_sIfF (v_not (o := true) (v_tV (v_call (v_aC (v_var 3 rfl) (v_aC a2_ev v_aN)) like_due) rfl)) v_nx) fin_ev))
end K15
namespace K15
open PySem L2 VL PyProof.Rows
def i_BadParting : Stmt := inSt (top 2)
theorem ini_BadParting : IniT i_BadParting ["place"] := ⟨rfl, rfl, rfl, by decide +kernel, by decide +kernel, by decide +kernel, by decide +kernel, ⟨_, rfl, rfl⟩, rfl, rfl, fun _ _ _ _ _ _ _ _ us hl => match us, hl with | [_, _], _ => rfl⟩
def i_BadLot : Stmt := inSt (top 3)
theorem ini_BadLot : IniT i_BadLot ["word"] := ⟨rfl, rfl, rfl, by decide +kernel, by decide +kernel, by decide +kernel, by decide +kernel, ⟨_, rfl, rfl⟩, rfl, rfl, fun _ _ _ _ _ _ _ _ us hl => match us, hl with | [_, _], _ => rfl⟩
def i_BadNumber : Stmt := inSt (top 4)
theorem ini_BadNumber : IniT i_BadNumber ["value"] := ⟨rfl, rfl, rfl, by decide +kernel, by decide +kernel, by decide +kernel, by decide +kernel, ⟨_, rfl, rfl⟩, rfl, rfl, fun _ _ _ _ _ _ _ _ us hl => match us, hl with | [_, _], _ => rfl⟩
set_option maxHeartbeats 0 in
theorem all_mk (hev : LawEv) {l : PySem.W.OpenLaw} {w : World} {K : PySem.W.Frag} {h : Heap} {mg : Str → Option Value} {fa f1 f2 f3 f4 f5 f6 f7 f8 f9 f10 f11 f12 f13 f14 f15 f16 f17 f18 f19 f20 f21 f22 f23 f24 f25 f26 f27 f28 f29 f30 f31 f32 f33 f34 f35 c_BadParting c_BadLot c_BadNumber : Addr} (X : K.In h) (G : h.Ns mainGlobals mg) (hfa : mg "law" = some (.ref fa))
    {od1 an1 od2 an2 od3 an3 od4 an4 od5 an5 od6 an6 od7 an7 od8 an8 od9 an9 od10 an10 od11 an11 od12 an12 od13 an13 od14 an14 od15 an15 od16 an16 od17 an17 od18 an18 od19 an19 od20 an20 od21 an21 od22 an22 od23 an23 od24 an24 od25 an25 od26 an26 od27 an27 od28 an28 od29 an29 od30 an30 od31 an31 od32 an32 od33 an33 od34 an34 od35 an35 : Option Addr} {sl1 sl2 sl3 sl4 sl5 sl6 sl7 sl8 sl9 sl10 sl11 sl12 sl13 sl14 sl15 sl16 sl17 sl18 sl19 sl20 sl21 sl22 sl23 sl24 sl25 sl26 sl27 sl28 sl29 sl30 sl31 sl32 sl33 sl34 sl35 : Array (Option Value)} {oc1 kV1 dc1 pm1 cd1 ct1 oc2 kV2 dc2 pm2 cd2 ct2 oc3 kV3 dc3 pm3 cd3 ct3 oc4 kV4 dc4 pm4 cd4 ct4 oc5 kV5 dc5 pm5 cd5 ct5 oc6 kV6 dc6 pm6 cd6 ct6 oc7 kV7 dc7 pm7 cd7 ct7 oc8 kV8 dc8 pm8 cd8 ct8 oc9 kV9 dc9 pm9 cd9 ct9 oc10 kV10 dc10 pm10 cd10 ct10 oc11 kV11 dc11 pm11 cd11 ct11 oc12 kV12 dc12 pm12 cd12 ct12 oc13 kV13 dc13 pm13 cd13 ct13 oc14 kV14 dc14 pm14 cd14 ct14 oc15 kV15 dc15 pm15 cd15 ct15 oc16 kV16 dc16 pm16 cd16 ct16 oc17 kV17 dc17 pm17 cd17 ct17 oc18 kV18 dc18 pm18 cd18 ct18 oc19 kV19 dc19 pm19 cd19 ct19 oc20 kV20 dc20 pm20 cd20 ct20 oc21 kV21 dc21 pm21 cd21 ct21 oc22 kV22 dc22 pm22 cd22 ct22 oc23 kV23 dc23 pm23 cd23 ct23 oc24 kV24 dc24 pm24 cd24 ct24 oc25 kV25 dc25 pm25 cd25 ct25 oc26 kV26 dc26 pm26 cd26 ct26 oc27 kV27 dc27 pm27 cd27 ct27 oc28 kV28 dc28 pm28 cd28 ct28 oc29 kV29 dc29 pm29 cd29 ct29 oc30 kV30 dc30 pm30 cd30 ct30 oc31 kV31 dc31 pm31 cd31 ct31 oc32 kV32 dc32 pm32 cd32 ct32 oc33 kV33 dc33 pm33 cd33 ct33 oc34 kV34 dc34 pm34 cd34 ct34 oc35 kV35 dc35 pm35 cd35 ct35 : Value} {t1 t2 : _}
    (a1 : PySem.W.nsIn K mainGlobals "_law_mixed" = some (some (.ref f1))) (l1 : K.lookup f1 = some ⟨oc1, od1, .func (PySem.W.fnOf "_law_mixed" "_law_mixed" (defArgs s__law_mixed) (defBody s__law_mixed) (defScope s__law_mixed) .none kV1 dc1 pm1 an1 cd1 ct1), sl1⟩) (c1 : PySem.W.codeIn K cd1 "_law_mixed" = true) (k1 : PySem.W.keepIn K (.ref f1) = true)
    (a2 : PySem.W.nsIn K mainGlobals "_law_draw" = some (some (.ref f2))) (l2 : K.lookup f2 = some ⟨oc2, od2, .func (PySem.W.fnOf "_law_draw" "_law_draw" (defArgs s__law_draw) (defBody s__law_draw) (defScope s__law_draw) .none kV2 dc2 pm2 an2 cd2 ct2), sl2⟩) (c2 : PySem.W.codeIn K cd2 "_law_draw" = true) (k2 : PySem.W.keepIn K (.ref f2) = true)
    (a3 : PySem.W.nsIn K mainGlobals "_law_of" = some (some (.ref f3))) (l3 : K.lookup f3 = some ⟨oc3, od3, .func (PySem.W.fnOf "_law_of" "_law_of" (defArgs s__law_of) (defBody s__law_of) (defScope s__law_of) .none kV3 dc3 pm3 an3 cd3 ct3), sl3⟩) (c3 : PySem.W.codeIn K cd3 "_law_of" = true) (k3 : PySem.W.keepIn K (.ref f3) = true)
    (a4 : PySem.W.nsIn K mainGlobals "_law_numbered" = some (some (.ref f4))) (l4 : K.lookup f4 = some ⟨oc4, od4, .func (PySem.W.fnOf "_law_numbered" "_law_numbered" (defArgs s__law_numbered) (defBody s__law_numbered) (defScope s__law_numbered) .none kV4 dc4 pm4 an4 cd4 ct4), sl4⟩) (c4 : PySem.W.codeIn K cd4 "_law_numbered" = true) (k4 : PySem.W.keepIn K (.ref f4) = true)
    (a5 : PySem.W.nsIn K mainGlobals "_law_parting" = some (some (.ref f5))) (l5 : K.lookup f5 = some ⟨oc5, od5, .func (PySem.W.fnOf "_law_parting" "_law_parting" (defArgs s__law_parting) (defBody s__law_parting) (defScope s__law_parting) .none kV5 dc5 pm5 an5 cd5 ct5), sl5⟩) (c5 : PySem.W.codeIn K cd5 "_law_parting" = true) (k5 : PySem.W.keepIn K (.ref f5) = true)
    (a6 : PySem.W.nsIn K mainGlobals "_law_partings" = some (some (.ref f6))) (l6 : K.lookup f6 = some ⟨oc6, od6, .func (PySem.W.fnOf "_law_partings" "_law_partings" (defArgs s__law_partings) (defBody s__law_partings) (defScope s__law_partings) .none kV6 dc6 pm6 an6 cd6 ct6), sl6⟩) (c6 : PySem.W.codeIn K cd6 "_law_partings" = true) (k6 : PySem.W.keepIn K (.ref f6) = true)
    (a7 : PySem.W.nsIn K mainGlobals "_law_lot_from" = some (some (.ref f7))) (l7 : K.lookup f7 = some ⟨oc7, od7, .func (PySem.W.fnOf "_law_lot_from" "_law_lot_from" (defArgs s__law_lot_from) (defBody s__law_lot_from) (defScope s__law_lot_from) .none kV7 dc7 pm7 an7 cd7 ct7), sl7⟩) (c7 : PySem.W.codeIn K cd7 "_law_lot_from" = true) (k7 : PySem.W.keepIn K (.ref f7) = true)
    (a8 : PySem.W.nsIn K mainGlobals "_law_root" = some (some (.ref f8))) (l8 : K.lookup f8 = some ⟨oc8, od8, .func (PySem.W.fnOf "_law_root" "_law_root" (defArgs s__law_root) (defBody s__law_root) (defScope s__law_root) .none kV8 dc8 pm8 an8 cd8 ct8), sl8⟩) (c8 : PySem.W.codeIn K cd8 "_law_root" = true) (k8 : PySem.W.keepIn K (.ref f8) = true)
    (a9 : PySem.W.nsIn K mainGlobals "_law_meet" = some (some (.ref f9))) (l9 : K.lookup f9 = some ⟨oc9, od9, .func (PySem.W.fnOf "_law_meet" "_law_meet" (defArgs s__law_meet) (defBody s__law_meet) (defScope s__law_meet) .none kV9 dc9 pm9 an9 cd9 ct9), sl9⟩) (c9 : PySem.W.codeIn K cd9 "_law_meet" = true) (k9 : PySem.W.keepIn K (.ref f9) = true)
    (a10 : PySem.W.nsIn K mainGlobals "_law_met_all" = some (some (.ref f10))) (l10 : K.lookup f10 = some ⟨oc10, od10, .func (PySem.W.fnOf "_law_met_all" "_law_met_all" (defArgs s__law_met_all) (defBody s__law_met_all) (defScope s__law_met_all) .none kV10 dc10 pm10 an10 cd10 ct10), sl10⟩) (c10 : PySem.W.codeIn K cd10 "_law_met_all" = true) (k10 : PySem.W.keepIn K (.ref f10) = true)
    (a11 : PySem.W.nsIn K mainGlobals "_law_some_lot" = some (some (.ref f11))) (l11 : K.lookup f11 = some ⟨oc11, od11, .func (PySem.W.fnOf "_law_some_lot" "_law_some_lot" (defArgs s__law_some_lot) (defBody s__law_some_lot) (defScope s__law_some_lot) .none kV11 dc11 pm11 an11 cd11 ct11), sl11⟩) (c11 : PySem.W.codeIn K cd11 "_law_some_lot" = true) (k11 : PySem.W.keepIn K (.ref f11) = true)
    (a12 : PySem.W.nsIn K mainGlobals "_law_like" = some (some (.ref f12))) (l12 : K.lookup f12 = some ⟨oc12, od12, .func (PySem.W.fnOf "_law_like" "_law_like" (defArgs s__law_like) (defBody s__law_like) (defScope s__law_like) .none kV12 dc12 pm12 an12 cd12 ct12), sl12⟩) (c12 : PySem.W.codeIn K cd12 "_law_like" = true) (k12 : PySem.W.keepIn K (.ref f12) = true)
    (a13 : PySem.W.nsIn K mainGlobals "all_of" = some (some (.ref f13))) (l13 : K.lookup f13 = some ⟨oc13, od13, .func (PySem.W.fnOf "all_of" "all_of" (defArgs s_all_of) (defBody s_all_of) (defScope s_all_of) .none kV13 dc13 pm13 an13 cd13 ct13), sl13⟩) (c13 : PySem.W.codeIn K cd13 "all_of" = true) (k13 : PySem.W.keepIn K (.ref f13) = true)
    (a14 : PySem.W.nsIn K mainGlobals "joined_labels" = some (some (.ref f14))) (l14 : K.lookup f14 = some ⟨oc14, od14, .func (PySem.W.fnOf "joined_labels" "joined_labels" (defArgs s_joined_labels) (defBody s_joined_labels) (defScope s_joined_labels) .none kV14 dc14 pm14 an14 cd14 ct14), sl14⟩) (c14 : PySem.W.codeIn K cd14 "joined_labels" = true) (k14 : PySem.W.keepIn K (.ref f14) = true)
    (a15 : PySem.W.nsIn K mainGlobals "blocks_hang" = some (some (.ref f15))) (l15 : K.lookup f15 = some ⟨oc15, od15, .func (PySem.W.fnOf "blocks_hang" "blocks_hang" (defArgs s_blocks_hang) (defBody s_blocks_hang) (defScope s_blocks_hang) .none kV15 dc15 pm15 an15 cd15 ct15), sl15⟩) (c15 : PySem.W.codeIn K cd15 "blocks_hang" = true) (k15 : PySem.W.keepIn K (.ref f15) = true)
    (a16 : PySem.W.nsIn K mainGlobals "has_tree" = some (some (.ref f16))) (l16 : K.lookup f16 = some ⟨oc16, od16, .func (PySem.W.fnOf "has_tree" "has_tree" (defArgs s_has_tree) (defBody s_has_tree) (defScope s_has_tree) .none kV16 dc16 pm16 an16 cd16 ct16), sl16⟩) (c16 : PySem.W.codeIn K cd16 "has_tree" = true) (k16 : PySem.W.keepIn K (.ref f16) = true)
    (a17 : PySem.W.nsIn K mainGlobals "turned_of" = some (some (.ref f17))) (l17 : K.lookup f17 = some ⟨oc17, od17, .func (PySem.W.fnOf "turned_of" "turned_of" (defArgs s_turned_of) (defBody s_turned_of) (defScope s_turned_of) .none kV17 dc17 pm17 an17 cd17 ct17), sl17⟩) (c17 : PySem.W.codeIn K cd17 "turned_of" = true) (k17 : PySem.W.keepIn K (.ref f17) = true)
    (a18 : PySem.W.nsIn K mainGlobals "closed_of" = some (some (.ref f18))) (l18 : K.lookup f18 = some ⟨oc18, od18, .func (PySem.W.fnOf "closed_of" "closed_of" (defArgs s_closed_of) (defBody s_closed_of) (defScope s_closed_of) .none kV18 dc18 pm18 an18 cd18 ct18), sl18⟩) (c18 : PySem.W.codeIn K cd18 "closed_of" = true) (k18 : PySem.W.keepIn K (.ref f18) = true)
    (a19 : PySem.W.nsIn K mainGlobals "is_whole" = some (some (.ref f19))) (l19 : K.lookup f19 = some ⟨oc19, od19, .func (PySem.W.fnOf "is_whole" "is_whole" (defArgs s_is_whole) (defBody s_is_whole) (defScope s_is_whole) .none kV19 dc19 pm19 an19 cd19 ct19), sl19⟩) (c19 : PySem.W.codeIn K cd19 "is_whole" = true) (k19 : PySem.W.keepIn K (.ref f19) = true)
    (a20 : PySem.W.nsIn K mainGlobals "is_within" = some (some (.ref f20))) (l20 : K.lookup f20 = some ⟨oc20, od20, .func (PySem.W.fnOf "is_within" "is_within" (defArgs s_is_within) (defBody s_is_within) (defScope s_is_within) .none kV20 dc20 pm20 an20 cd20 ct20), sl20⟩) (c20 : PySem.W.codeIn K cd20 "is_within" = true) (k20 : PySem.W.keepIn K (.ref f20) = true)
    (a21 : PySem.W.nsIn K mainGlobals "need_number" = some (some (.ref f21))) (l21 : K.lookup f21 = some ⟨oc21, od21, .func (PySem.W.fnOf "need_number" "need_number" (defArgs s_need_number) (defBody s_need_number) (defScope s_need_number) .none kV21 dc21 pm21 an21 cd21 ct21), sl21⟩) (c21 : PySem.W.codeIn K cd21 "need_number" = true) (k21 : PySem.W.keepIn K (.ref f21) = true)
    (a22 : PySem.W.nsIn K mainGlobals "need_parting" = some (some (.ref f22))) (l22 : K.lookup f22 = some ⟨oc22, od22, .func (PySem.W.fnOf "need_parting" "need_parting" (defArgs s_need_parting) (defBody s_need_parting) (defScope s_need_parting) .none kV22 dc22 pm22 an22 cd22 ct22), sl22⟩) (c22 : PySem.W.codeIn K cd22 "need_parting" = true) (k22 : PySem.W.keepIn K (.ref f22) = true)
    (a23 : PySem.W.nsIn K mainGlobals "is_parting" = some (some (.ref f23))) (l23 : K.lookup f23 = some ⟨oc23, od23, .func (PySem.W.fnOf "is_parting" "is_parting" (defArgs s_is_parting) (defBody s_is_parting) (defScope s_is_parting) .none kV23 dc23 pm23 an23 cd23 ct23), sl23⟩) (c23 : PySem.W.codeIn K cd23 "is_parting" = true) (k23 : PySem.W.keepIn K (.ref f23) = true)
    (a24 : PySem.W.nsIn K mainGlobals "lot_fault" = some (some (.ref f24))) (l24 : K.lookup f24 = some ⟨oc24, od24, .func (PySem.W.fnOf "lot_fault" "lot_fault" (defArgs s_lot_fault) (defBody s_lot_fault) (defScope s_lot_fault) .none kV24 dc24 pm24 an24 cd24 ct24), sl24⟩) (c24 : PySem.W.codeIn K cd24 "lot_fault" = true) (k24 : PySem.W.keepIn K (.ref f24) = true)
    (a25 : PySem.W.nsIn K mainGlobals "need_lot" = some (some (.ref f25))) (l25 : K.lookup f25 = some ⟨oc25, od25, .func (PySem.W.fnOf "need_lot" "need_lot" (defArgs s_need_lot) (defBody s_need_lot) (defScope s_need_lot) .none kV25 dc25 pm25 an25 cd25 ct25), sl25⟩) (c25 : PySem.W.codeIn K cd25 "need_lot" = true) (k25 : PySem.W.keepIn K (.ref f25) = true)
    (a26 : PySem.W.nsIn K mainGlobals "is_closed" = some (some (.ref f26))) (l26 : K.lookup f26 = some ⟨oc26, od26, .func (PySem.W.fnOf "is_closed" "is_closed" (defArgs s_is_closed) (defBody s_is_closed) (defScope s_is_closed) .none kV26 dc26 pm26 an26 cd26 ct26), sl26⟩) (c26 : PySem.W.codeIn K cd26 "is_closed" = true) (k26 : PySem.W.keepIn K (.ref f26) = true)
    (a27 : PySem.W.nsIn K mainGlobals "closed" = some (some (.ref f27))) (l27 : K.lookup f27 = some ⟨oc27, od27, .func (PySem.W.fnOf "closed" "closed" (defArgs s_closed) (defBody s_closed) (defScope s_closed) .none kV27 dc27 pm27 an27 cd27 ct27), sl27⟩) (c27 : PySem.W.codeIn K cd27 "closed" = true) (k27 : PySem.W.keepIn K (.ref f27) = true)
    (a28 : PySem.W.nsIn K mainGlobals "turned" = some (some (.ref f28))) (l28 : K.lookup f28 = some ⟨oc28, od28, .func (PySem.W.fnOf "turned" "turned" (defArgs s_turned) (defBody s_turned) (defScope s_turned) .none kV28 dc28 pm28 an28 cd28 ct28), sl28⟩) (c28 : PySem.W.codeIn K cd28 "turned" = true) (k28 : PySem.W.keepIn K (.ref f28) = true)
    (a29 : PySem.W.nsIn K mainGlobals "_law_right" = some (some (.ref f29))) (l29 : K.lookup f29 = some ⟨oc29, od29, .func (PySem.W.fnOf "_law_right" "_law_right" (defArgs s__law_right) (defBody s__law_right) (defScope s__law_right) .none kV29 dc29 pm29 an29 cd29 ct29), sl29⟩) (c29 : PySem.W.codeIn K cd29 "_law_right" = true) (k29 : PySem.W.keepIn K (.ref f29) = true)
    (a30 : PySem.W.nsIn K mainGlobals "_law_bad_lot" = some (some (.ref f30))) (l30 : K.lookup f30 = some ⟨oc30, od30, .func (PySem.W.fnOf "_law_bad_lot" "_law_bad_lot" (defArgs s__law_bad_lot) (defBody s__law_bad_lot) (defScope s__law_bad_lot) .none kV30 dc30 pm30 an30 cd30 ct30), sl30⟩) (c30 : PySem.W.codeIn K cd30 "_law_bad_lot" = true) (k30 : PySem.W.keepIn K (.ref f30) = true)
    (a31 : PySem.W.nsIn K mainGlobals "_law_asked" = some (some (.ref f31))) (l31 : K.lookup f31 = some ⟨oc31, od31, .func (PySem.W.fnOf "_law_asked" "_law_asked" (defArgs s__law_asked) (defBody s__law_asked) (defScope s__law_asked) .none kV31 dc31 pm31 an31 cd31 ct31), sl31⟩) (c31 : PySem.W.codeIn K cd31 "_law_asked" = true) (k31 : PySem.W.keepIn K (.ref f31) = true)
    (a32 : PySem.W.nsIn K mainGlobals "_law_twice_bad" = some (some (.ref f32))) (l32 : K.lookup f32 = some ⟨oc32, od32, .func (PySem.W.fnOf "_law_twice_bad" "_law_twice_bad" (defArgs s__law_twice_bad) (defBody s__law_twice_bad) (defScope s__law_twice_bad) .none kV32 dc32 pm32 an32 cd32 ct32), sl32⟩) (c32 : PySem.W.codeIn K cd32 "_law_twice_bad" = true) (k32 : PySem.W.keepIn K (.ref f32) = true)
    (a33 : PySem.W.nsIn K mainGlobals "_law_folded" = some (some (.ref f33))) (l33 : K.lookup f33 = some ⟨oc33, od33, .func (PySem.W.fnOf "_law_folded" "_law_folded" (defArgs s__law_folded) (defBody s__law_folded) (defScope s__law_folded) .none kV33 dc33 pm33 an33 cd33 ct33), sl33⟩) (c33 : PySem.W.codeIn K cd33 "_law_folded" = true) (k33 : PySem.W.keepIn K (.ref f33) = true)
    (a34 : PySem.W.nsIn K mainGlobals "_law_begun" = some (some (.ref f34))) (l34 : K.lookup f34 = some ⟨oc34, od34, .func (PySem.W.fnOf "_law_begun" "_law_begun" (defArgs s__law_begun) (defBody s__law_begun) (defScope s__law_begun) .none kV34 dc34 pm34 an34 cd34 ct34), sl34⟩) (c34 : PySem.W.codeIn K cd34 "_law_begun" = true) (k34 : PySem.W.keepIn K (.ref f34) = true)
    (a35 : PySem.W.nsIn K mainGlobals "law" = some (some (.ref f35))) (l35 : K.lookup f35 = some ⟨oc35, od35, .func (PySem.W.fnOf "law" "law" (defArgs s_law) (defBody s_law) (defScope s_law) .none kV35 dc35 pm35 an35 cd35 ct35), sl35⟩) (c35 : PySem.W.codeIn K cd35 "law" = true) (k35 : PySem.W.keepIn K (.ref f35) = true)
    (z1 : PySem.W.nsIn K mainGlobals "bool" = some none)
    (z2 : PySem.W.nsIn K mainGlobals "enumerate" = some none)
    (z3 : PySem.W.nsIn K mainGlobals "int" = some none)
    (z4 : PySem.W.nsIn K mainGlobals "isinstance" = some none)
    (z5 : PySem.W.nsIn K mainGlobals "len" = some none)
    (z6 : PySem.W.nsIn K mainGlobals "list" = some none)
    (z7 : PySem.W.nsIn K mainGlobals "max" = some none)
    (z8 : PySem.W.nsIn K mainGlobals "min" = some none)
    (z9 : PySem.W.nsIn K mainGlobals "range" = some none)
    (z10 : PySem.W.nsIn K mainGlobals "repr" = some none)
    (z11 : PySem.W.nsIn K mainGlobals "set" = some none)
    (z12 : PySem.W.nsIn K mainGlobals "sorted" = some none)
    (z13 : PySem.W.nsIn K mainGlobals "tuple" = some none)
    (z14 : PySem.W.nsIn K mainGlobals "zip" = some none)
    (y1 : PySem.W.nsIn K mainGlobals "MOST_DOORS_lots" = some (some (.int 6 t1)))
    (y2 : PySem.W.nsIn K mainGlobals "MOST_DOORS_partings" = some (some (.int 60 t2)))
    (ca_BadParting : PySem.W.nsIn K mainGlobals "BadParting" = some (some (.ref c_BadParting)))
    (ca_BadLot : PySem.W.nsIn K mainGlobals "BadLot" = some (some (.ref c_BadLot)))
    (ca_BadNumber : PySem.W.nsIn K mainGlobals "BadNumber" = some (some (.ref c_BadNumber)))
    (ex : ∀ base : Heap, Exs l.prog w K mg base c_BadParting c_BadLot c_BadNumber)
    : ∃ fd : FuncData, (∀ (s : Shared) (v : Value), BindsTo s fd ⟨[v], []⟩ [("_law_script", v)]) ∧ ∀ base : Heap, K.In base → base.Ns mainGlobals mg → FnV l.prog w K mg base CX0 9 fa fd ["_law_script"] (spLaw K 63) := by
  have e := hfa.symm.trans (PySem.W.mg_of X G a35)
  cases e
  have F__law_mixed := fun_mk (st := s__law_mixed) l1 c1 k1
  have m__law_mixed := PySem.W.mg_of X G a1
  have B__law_mixed := F__law_mixed.binds (ps := ["_law_cell", "_law_n"]) fun _ _ _ _ _ _ us hl => match us, hl with | [_, _], _ => rfl
  have F__law_draw := fun_mk (st := s__law_draw) l2 c2 k2
  have m__law_draw := PySem.W.mg_of X G a2
  have B__law_draw := F__law_draw.binds (ps := ["_law_m", "_law_limit"]) fun _ _ _ _ _ _ us hl => match us, hl with | [_, _], _ => rfl
  have F__law_of := fun_mk (st := s__law_of) l3 c3 k3
  have m__law_of := PySem.W.mg_of X G a3
  have B__law_of := F__law_of.binds (ps := ["_law_m", "_law_some"]) fun _ _ _ _ _ _ us hl => match us, hl with | [_, _], _ => rfl
  have F__law_numbered := fun_mk (st := s__law_numbered) l4 c4 k4
  have m__law_numbered := PySem.W.mg_of X G a4
  have B__law_numbered := F__law_numbered.binds (ps := ["_law_labels"]) fun _ _ _ _ _ _ us hl => match us, hl with | [_], _ => rfl
  have F__law_parting := fun_mk (st := s__law_parting) l5 c5 k5
  have m__law_parting := PySem.W.mg_of X G a5
  have B__law_parting := F__law_parting.binds (ps := ["_law_m", "_law_many"]) fun _ _ _ _ _ _ us hl => match us, hl with | [_, _], _ => rfl
  have F__law_partings := fun_mk (st := s__law_partings) l6 c6 k6
  have m__law_partings := PySem.W.mg_of X G a6
  have B__law_partings := F__law_partings.binds (ps := ["_law_many"]) fun _ _ _ _ _ _ us hl => match us, hl with | [_], _ => rfl
  have F__law_lot_from := fun_mk (st := s__law_lot_from) l7 c7 k7
  have m__law_lot_from := PySem.W.mg_of X G a7
  have B__law_lot_from := F__law_lot_from.binds (ps := ["_law_rows"]) fun _ _ _ _ _ _ us hl => match us, hl with | [_], _ => rfl
  have F__law_root := fun_mk (st := s__law_root) l8 c8 k8
  have m__law_root := PySem.W.mg_of X G a8
  have B__law_root := F__law_root.binds (ps := ["_law_roots", "_law_thing"]) fun _ _ _ _ _ _ us hl => match us, hl with | [_, _], _ => rfl
  have F__law_meet := fun_mk (st := s__law_meet) l9 c9 k9
  have m__law_meet := PySem.W.mg_of X G a9
  have B__law_meet := F__law_meet.binds (ps := ["_law_one", "_law_two"]) fun _ _ _ _ _ _ us hl => match us, hl with | [_, _], _ => rfl
  have F__law_met_all := fun_mk (st := s__law_met_all) l10 c10 k10
  have m__law_met_all := PySem.W.mg_of X G a10
  have B__law_met_all := F__law_met_all.binds (ps := ["_law_lot", "_law_many"]) fun _ _ _ _ _ _ us hl => match us, hl with | [_, _], _ => rfl
  have F__law_some_lot := fun_mk (st := s__law_some_lot) l11 c11 k11
  have m__law_some_lot := PySem.W.mg_of X G a11
  have B__law_some_lot := F__law_some_lot.binds (ps := ["_law_m", "_law_many"]) fun _ _ _ _ _ _ us hl => match us, hl with | [_, _], _ => rfl
  have F__law_like := fun_mk (st := s__law_like) l12 c12 k12
  have m__law_like := PySem.W.mg_of X G a12
  have B__law_like := F__law_like.binds (ps := ["_law_got", "_law_due"]) fun _ _ _ _ _ _ us hl => match us, hl with | [_, _], _ => rfl
  have F_all_of := fun_mk (st := s_all_of) l13 c13 k13
  have m_all_of := PySem.W.mg_of X G a13
  have B_all_of := F_all_of.binds (ps := ["number"]) fun _ _ _ _ _ _ us hl => match us, hl with | [_], _ => rfl
  have F_joined_labels := fun_mk (st := s_joined_labels) l14 c14 k14
  have m_joined_labels := PySem.W.mg_of X G a14
  have B_joined_labels := F_joined_labels.binds (ps := ["parting", "other"]) fun _ _ _ _ _ _ us hl => match us, hl with | [_, _], _ => rfl
  have F_blocks_hang := fun_mk (st := s_blocks_hang) l15 c15 k15
  have m_blocks_hang := PySem.W.mg_of X G a15
  have B_blocks_hang := F_blocks_hang.binds (ps := ["parting", "other"]) fun _ _ _ _ _ _ us hl => match us, hl with | [_, _], _ => rfl
  have F_has_tree := fun_mk (st := s_has_tree) l16 c16 k16
  have m_has_tree := PySem.W.mg_of X G a16
  have B_has_tree := F_has_tree.binds (ps := ["parting", "other"]) fun _ _ _ _ _ _ us hl => match us, hl with | [_, _], _ => rfl
  have F_turned_of := fun_mk (st := s_turned_of) l17 c17 k17
  have m_turned_of := PySem.W.mg_of X G a17
  have B_turned_of := F_turned_of.binds (ps := ["lot", "number"]) fun _ _ _ _ _ _ us hl => match us, hl with | [_, _], _ => rfl
  have F_closed_of := fun_mk (st := s_closed_of) l18 c18 k18
  have m_closed_of := PySem.W.mg_of X G a18
  have B_closed_of := F_closed_of.binds (ps := ["lot", "number"]) fun _ _ _ _ _ _ us hl => match us, hl with | [_, _], _ => rfl
  have F_is_whole := fun_mk (st := s_is_whole) l19 c19 k19
  have m_is_whole := PySem.W.mg_of X G a19
  have B_is_whole := F_is_whole.binds (ps := ["value"]) fun _ _ _ _ _ _ us hl => match us, hl with | [_], _ => rfl
  have F_is_within := fun_mk (st := s_is_within) l20 c20 k20
  have m_is_within := PySem.W.mg_of X G a20
  have B_is_within := F_is_within.binds (ps := ["value", "low", "high"]) fun _ _ _ _ _ _ us hl => match us, hl with | [_, _, _], _ => rfl
  have F_need_number := fun_mk (st := s_need_number) l21 c21 k21
  have m_need_number := PySem.W.mg_of X G a21
  have B_need_number := F_need_number.binds (ps := ["value", "low", "high"]) fun _ _ _ _ _ _ us hl => match us, hl with | [_, _, _], _ => rfl
  have F_need_parting := fun_mk (st := s_need_parting) l22 c22 k22
  have m_need_parting := PySem.W.mg_of X G a22
  have B_need_parting := F_need_parting.binds (ps := ["parting"]) fun _ _ _ _ _ _ us hl => match us, hl with | [_], _ => rfl
  have F_is_parting := fun_mk (st := s_is_parting) l23 c23 k23
  have m_is_parting := PySem.W.mg_of X G a23
  have B_is_parting := F_is_parting.binds (ps := ["value"]) fun _ _ _ _ _ _ us hl => match us, hl with | [_], _ => rfl
  have F_lot_fault := fun_mk (st := s_lot_fault) l24 c24 k24
  have m_lot_fault := PySem.W.mg_of X G a24
  have B_lot_fault := F_lot_fault.binds (ps := ["lot", "number"]) fun _ _ _ _ _ _ us hl => match us, hl with | [_, _], _ => rfl
  have F_need_lot := fun_mk (st := s_need_lot) l25 c25 k25
  have m_need_lot := PySem.W.mg_of X G a25
  have B_need_lot := F_need_lot.binds (ps := ["lot", "number"]) fun _ _ _ _ _ _ us hl => match us, hl with | [_, _], _ => rfl
  have F_is_closed := fun_mk (st := s_is_closed) l26 c26 k26
  have m_is_closed := PySem.W.mg_of X G a26
  have B_is_closed := F_is_closed.binds (ps := ["lot", "number"]) fun _ _ _ _ _ _ us hl => match us, hl with | [_, _], _ => rfl
  have F_closed := fun_mk (st := s_closed) l27 c27 k27
  have m_closed := PySem.W.mg_of X G a27
  have B_closed := F_closed.binds (ps := ["lot", "number"]) fun _ _ _ _ _ _ us hl => match us, hl with | [_, _], _ => rfl
  have F_turned := fun_mk (st := s_turned) l28 c28 k28
  have m_turned := PySem.W.mg_of X G a28
  have B_turned := F_turned.binds (ps := ["lot", "number"]) fun _ _ _ _ _ _ us hl => match us, hl with | [_, _], _ => rfl
  have F__law_right := fun_mk (st := s__law_right) l29 c29 k29
  have m__law_right := PySem.W.mg_of X G a29
  have B__law_right := F__law_right.binds (ps := ["_law_m", "_law_lot", "_law_many"]) fun _ _ _ _ _ _ us hl => match us, hl with | [_, _, _], _ => rfl
  have F__law_bad_lot := fun_mk (st := s__law_bad_lot) l30 c30 k30
  have m__law_bad_lot := PySem.W.mg_of X G a30
  have B__law_bad_lot := F__law_bad_lot.binds (ps := ["_law_m", "_law_lot", "_law_many"]) fun _ _ _ _ _ _ us hl => match us, hl with | [_, _, _], _ => rfl
  have F__law_asked := fun_mk (st := s__law_asked) l31 c31 k31
  have m__law_asked := PySem.W.mg_of X G a31
  have B__law_asked := F__law_asked.binds (ps := ["_law_which", "_law_lot", "_law_many"]) fun _ _ _ _ _ _ us hl => match us, hl with | [_, _, _], _ => rfl
  have F__law_twice_bad := fun_mk (st := s__law_twice_bad) l32 c32 k32
  have m__law_twice_bad := PySem.W.mg_of X G a32
  have B__law_twice_bad := F__law_twice_bad.binds (ps := ["_law_m", "_law_lot", "_law_many"]) fun _ _ _ _ _ _ us hl => match us, hl with | [_, _, _], _ => rfl
  have F__law_folded := fun_mk (st := s__law_folded) l33 c33 k33
  have m__law_folded := PySem.W.mg_of X G a33
  have B__law_folded := F__law_folded.binds (ps := ["_law_script"]) fun _ _ _ _ _ _ us hl => match us, hl with | [_], _ => rfl
  have F__law_begun := fun_mk (st := s__law_begun) l34 c34 k34
  have m__law_begun := PySem.W.mg_of X G a34
  have B__law_begun := F__law_begun.binds (ps := ["_law_script"]) fun _ _ _ _ _ _ us hl => match us, hl with | [_], _ => rfl
  have F_law := fun_mk (st := s_law) l35 c35 k35
  have m_law := PySem.W.mg_of X G a35
  have T : Tx mg := ⟨PySem.W.mg_none_of X G z1, PySem.W.mg_none_of X G z2, PySem.W.mg_none_of X G z3, PySem.W.mg_none_of X G z4, PySem.W.mg_none_of X G z5, PySem.W.mg_none_of X G z6, PySem.W.mg_none_of X G z7, PySem.W.mg_none_of X G z8, PySem.W.mg_none_of X G z9, PySem.W.mg_none_of X G z10, PySem.W.mg_none_of X G z11, PySem.W.mg_none_of X G z12, PySem.W.mg_none_of X G z13, PySem.W.mg_none_of X G z14, ⟨_, PySem.W.mg_of X G y1⟩, ⟨_, PySem.W.mg_of X G y2⟩⟩
  refine ⟨PySem.W.fnOf "law" "law" (defArgs s_law) (defBody s_law) (defScope s_law) .none kV35 dc35 pm35 an35 cd35 ct35, fun s v => .of_eq rfl, fun base _ _ => ?_⟩
  have EX := ex base
  have C__law_mixed : Fc l.prog w K mg base "_law_mixed" 1 f1 _ ["_law_cell", "_law_n"] [.dat, .dat] .dat fn__law_mixed := ⟨(ok__law_mixed (P := l.prog) (w := w) (base := base) T F__law_mixed ).mono (by decide), m__law_mixed, k1, B__law_mixed⟩
  have C__law_draw : FcM l.prog w K mg base "_law_draw" 3 f2 _ ["_law_m", "_law_limit"] [.dat] .dat fn__law_draw := ⟨(ok__law_draw (P := l.prog) (w := w) (base := base) T F__law_draw C__law_mixed).mono (by decide), m__law_draw, k2, B__law_draw⟩
  have C__law_of : FcM l.prog w K mg base "_law_of" 4 f3 _ ["_law_m", "_law_some"] [.dat] .dat fn__law_of := ⟨(ok__law_of (P := l.prog) (w := w) (base := base) T F__law_of C__law_draw).mono (by decide), m__law_of, k3, B__law_of⟩
  have C__law_numbered : Fc l.prog w K mg base "_law_numbered" 1 f4 _ ["_law_labels"] [.dat] .dat fn__law_numbered := ⟨(ok__law_numbered (P := l.prog) (w := w) (base := base) T F__law_numbered ).mono (by decide), m__law_numbered, k4, B__law_numbered⟩
  have C__law_parting : FcM l.prog w K mg base "_law_parting" 4 f5 _ ["_law_m", "_law_many"] [.dat] .dat fn__law_parting := ⟨(ok__law_parting (P := l.prog) (w := w) (base := base) T F__law_parting C__law_numbered C__law_draw).mono (by decide), m__law_parting, k5, B__law_parting⟩
  have C__law_partings : Fc l.prog w K mg base "_law_partings" 1 f6 _ ["_law_many"] [.dat] .dat fn__law_partings := ⟨(ok__law_partings (P := l.prog) (w := w) (base := base) T F__law_partings ).mono (by decide), m__law_partings, k6, B__law_partings⟩
  have C__law_lot_from : Fc l.prog w K mg base "_law_lot_from" 1 f7 _ ["_law_rows"] [.dat] .nd fn__law_lot_from := ⟨(ok__law_lot_from (P := l.prog) (w := w) (base := base) T F__law_lot_from ).mono (by decide), m__law_lot_from, k7, B__law_lot_from⟩
  have C__law_root : Fc l.prog w K mg base "_law_root" 1 f8 _ ["_law_roots", "_law_thing"] [.dat, .dat] .dat fn__law_root := ⟨(ok__law_root (P := l.prog) (w := w) (base := base) T F__law_root ).mono (by decide), m__law_root, k8, B__law_root⟩
  have C__law_meet : Fc l.prog w K mg base "_law_meet" 2 f9 _ ["_law_one", "_law_two"] [.dat, .dat] .dat fn__law_meet := ⟨(ok__law_meet (P := l.prog) (w := w) (base := base) T F__law_meet C__law_root).mono (by decide), m__law_meet, k9, B__law_meet⟩
  have C__law_met_allL : Fc l.prog w K mg base "_law_met_all" 3 f10 _ ["_law_lot", "_law_many"] [.dat, .dat] .dat fn__law_met_allL := ⟨(ok__law_met_allL (P := l.prog) (w := w) (base := base) T F__law_met_all C__law_partings C__law_meet).mono (by decide), m__law_met_all, k10, B__law_met_all⟩
  have C__law_some_lot : FcM l.prog w K mg base "_law_some_lot" 5 f11 _ ["_law_m", "_law_many"] [.dat] .nd fn__law_some_lot := ⟨(ok__law_some_lot (P := l.prog) (w := w) (base := base) T F__law_some_lot C__law_parting C__law_draw C__law_partings C__law_lot_from C__law_met_allL C__law_of).mono (by decide), m__law_some_lot, k11, B__law_some_lot⟩
  have C__law_met_all : Fc l.prog w K mg base "_law_met_all" 3 f10 _ ["_law_lot", "_law_many"] [.dat, .dat] .dat fn__law_met_all := ⟨(ok__law_met_all (P := l.prog) (w := w) (base := base) T F__law_met_all C__law_partings C__law_meet).mono (by decide), m__law_met_all, k10, B__law_met_all⟩
  have C__law_like : Fc l.prog w K mg base "_law_like" 1 f12 _ ["_law_got", "_law_due"] [.dat, .dat] .dat fn__law_like := ⟨(ok__law_like (P := l.prog) (w := w) (base := base) T F__law_like ).mono (by decide), m__law_like, k12, B__law_like⟩
  have C_all_of : Fc l.prog w K mg base "all_of" 1 f13 _ ["number"] [.dat] .dat fn_all_of := ⟨(ok_all_of (P := l.prog) (w := w) (base := base) T F_all_of ).mono (by decide), m_all_of, k13, B_all_of⟩
  have C_joined_labels : Fc l.prog w K mg base "joined_labels" 1 f14 _ ["parting", "other"] [.dat, .dat] .dat fn_joined_labels := ⟨(ok_joined_labels (P := l.prog) (w := w) (base := base) T F_joined_labels ).mono (by decide), m_joined_labels, k14, B_joined_labels⟩
  have C_blocks_hang : Fc l.prog w K mg base "blocks_hang" 2 f15 _ ["parting", "other"] [.dat, .dat] .dat fn_blocks_hang := ⟨(ok_blocks_hang (P := l.prog) (w := w) (base := base) T F_blocks_hang C_joined_labels).mono (by decide), m_blocks_hang, k15, B_blocks_hang⟩
  have C_has_tree : Fc l.prog w K mg base "has_tree" 3 f16 _ ["parting", "other"] [.dat, .dat] .dat fn_has_tree := ⟨(ok_has_tree (P := l.prog) (w := w) (base := base) T F_has_tree C_blocks_hang).mono (by decide), m_has_tree, k16, B_has_tree⟩
  have C_turned_of : Fc l.prog w K mg base "turned_of" 4 f17 _ ["lot", "number"] [.dat, .dat] .dat fn_turned_of := ⟨(ok_turned_of (P := l.prog) (w := w) (base := base) T F_turned_of C_all_of C_has_tree).mono (by decide), m_turned_of, k17, B_turned_of⟩
  have C_closed_of : Fc l.prog w K mg base "closed_of" 5 f18 _ ["lot", "number"] [.dat, .dat] .dat fn_closed_of := ⟨(ok_closed_of (P := l.prog) (w := w) (base := base) T F_closed_of C_turned_of).mono (by decide), m_closed_of, k18, B_closed_of⟩
  have C_is_whole : Fc l.prog w K mg base "is_whole" 1 f19 _ ["value"] [.dat] .dat fn_is_whole := ⟨(ok_is_whole (P := l.prog) (w := w) (base := base) T F_is_whole ).mono (by decide), m_is_whole, k19, B_is_whole⟩
  have C_is_within : Fc l.prog w K mg base "is_within" 2 f20 _ ["value", "low", "high"] [.dat, .dat, .dat] .dat fn_is_within := ⟨(ok_is_within (P := l.prog) (w := w) (base := base) T F_is_within C_is_whole).mono (by decide), m_is_within, k20, B_is_within⟩
  have C_need_number : FcX l.prog w K mg base "need_number" 3 f21 _ ["value", "low", "high"] [.dat, .dat, .dat] .dat fn_need_number := ⟨(ok_need_number (P := l.prog) (w := w) (base := base) T F_need_number C_is_within EX).mono (by decide), m_need_number, k21, B_need_number⟩
  have C_need_parting : FcX l.prog w K mg base "need_parting" 3 f22 _ ["parting"] [.dat] .dat fn_need_parting := ⟨(ok_need_parting (P := l.prog) (w := w) (base := base) T F_need_parting C_is_within EX).mono (by decide), m_need_parting, k22, B_need_parting⟩
  have C_is_parting : Fc l.prog w K mg base "is_parting" 4 f23 _ ["value"] [.dat] .dat fn_is_parting := ⟨(ok_is_parting (P := l.prog) (w := w) (base := base) T F_is_parting C_need_parting EX).mono (by decide), m_is_parting, k23, B_is_parting⟩
  have C_lot_fault : Fc l.prog w K mg base "lot_fault" 5 f24 _ ["lot", "number"] [.dat, .dat] .dat fn_lot_fault := ⟨(ok_lot_fault (P := l.prog) (w := w) (base := base) T F_lot_fault C_is_parting).mono (by decide), m_lot_fault, k24, B_lot_fault⟩
  have C_need_lot : FcX l.prog w K mg base "need_lot" 6 f25 _ ["lot", "number"] [.dat, .dat] .dat fn_need_lot := ⟨(ok_need_lot (P := l.prog) (w := w) (base := base) T F_need_lot C_need_number C_lot_fault EX).mono (by decide), m_need_lot, k25, B_need_lot⟩
  have C_is_closed : FcX l.prog w K mg base "is_closed" 7 f26 _ ["lot", "number"] [.dat, .dat] .dat fn_is_closed := ⟨(ok_is_closed (P := l.prog) (w := w) (base := base) T F_is_closed C_closed_of C_need_lot).mono (by decide), m_is_closed, k26, B_is_closed⟩
  have C_closed : FcX l.prog w K mg base "closed" 7 f27 _ ["lot", "number"] [.dat, .dat] .dat fn_closed := ⟨(ok_closed (P := l.prog) (w := w) (base := base) T F_closed C_closed_of C_need_lot).mono (by decide), m_closed, k27, B_closed⟩
  have C_turned : FcX l.prog w K mg base "turned" 7 f28 _ ["lot", "number"] [.dat, .dat] .dat fn_turned := ⟨(ok_turned (P := l.prog) (w := w) (base := base) T F_turned C_turned_of C_need_lot).mono (by decide), m_turned, k28, B_turned⟩
  have C__law_right : FcM l.prog w K mg base "_law_right" 8 f29 _ ["_law_m", "_law_lot", "_law_many"] [.dat, .dat] .dat fn__law_right := ⟨(ok__law_right (P := l.prog) (w := w) (base := base) T F__law_right C__law_met_all C__law_like C_is_closed C_closed C_turned C__law_lot_from C__law_parting C__law_partings).mono (by decide), m__law_right, k29, B__law_right⟩
  have C__law_bad_lot : FcM l.prog w K mg base "_law_bad_lot" 5 f30 _ ["_law_m", "_law_lot", "_law_many"] [.nd, .dat] .dat fn__law_bad_lot := ⟨(ok__law_bad_lot (P := l.prog) (w := w) (base := base) T F__law_bad_lot C__law_draw C__law_of C__law_parting).mono (by decide), m__law_bad_lot, k30, B__law_bad_lot⟩
  have TB__law_asked : ∀ n Fn, tab__law_asked.lookup n = some Fn → FnT l.prog w K mg base 7 [.dat, .dat] .dat n Fn := by
    exact tab_c ⟨_, _, _, ⟨C_need_lot.fn.mono (by decide), C_need_lot.here, C_need_lot.kp, C_need_lot.bi⟩, a25⟩ (tab_c ⟨_, _, _, ⟨C_turned.fn.mono (by decide), C_turned.here, C_turned.kp, C_turned.bi⟩, a28⟩ (tab_c ⟨_, _, _, ⟨C_closed.fn.mono (by decide), C_closed.here, C_closed.kp, C_closed.bi⟩, a27⟩ (tab_c ⟨_, _, _, ⟨C_is_closed.fn.mono (by decide), C_is_closed.here, C_is_closed.kp, C_is_closed.bi⟩, a26⟩ (tab_n))))
  have C__law_asked : Fc l.prog w K mg base "_law_asked" 8 f31 _ ["_law_which", "_law_lot", "_law_many"] [.dat, .dat, .dat] .dat fn__law_asked := ⟨(ok__law_asked (P := l.prog) (w := w) (base := base) T F__law_asked C_is_closed C_closed C_turned C_need_lot a27 a26 a25 a28 TB__law_asked EX).mono (by decide), m__law_asked, k31, B__law_asked⟩
  have C__law_twice_bad : FcM l.prog w K mg base "_law_twice_bad" 5 f32 _ ["_law_m", "_law_lot", "_law_many"] [.dat, .dat] .dat fn__law_twice_bad := ⟨(ok__law_twice_bad (P := l.prog) (w := w) (base := base) T F__law_twice_bad C__law_parting C__law_of C__law_draw).mono (by decide), m__law_twice_bad, k32, B__law_twice_bad⟩
  have C__law_folded : Fc l.prog w K mg base "_law_folded" 1 f33 _ ["_law_script"] [.dat] .dat fn__law_folded := ⟨(ok__law_folded (P := l.prog) (w := w) (base := base) T F__law_folded ).mono (by decide), m__law_folded, k33, B__law_folded⟩
  have V__law_begun := ok__law_begun (P := l.prog) (w := w) (base := base) T F__law_begun C__law_folded
  exact ok_law hev T F_law V__law_begun m__law_begun k34 B__law_begun C__law_of C__law_some_lot C__law_right C__law_bad_lot C__law_draw C__law_asked C__law_like C__law_twice_bad C_turned C_closed C_is_closed
end K15
open PySem PySem.W PyProof.Rows
set_option maxRecDepth 100000 in
set_option maxHeartbeats 0 in
theorem PySem.Challenge.cw_fittingdoors_k15_whole_turned_holds : PySem.Challenge.rw_fittingdoors_k15_whole_turned.Holds := by
  w_on; o_law; k_head; (case hw => w_witness2)
  k_fill
  refine VL.law_walk (l := PySem.Challenge.rw_fittingdoors_k15_whole_turned) (n := 63) (k := 9) (x := "_law_script") rfl (by decide) rfl ⟨rfl, by decide, by decide⟩ (fun w h Y => PySem.W.kIn_of Y) (fun w => by rfl) ?F
  case F =>
    intro w mg fa h KX G hmg
    refine' K15.all_mk K15.law_ev KX G hmg ?a1 ?l1 ?c1 ?k1 ?a2 ?l2 ?c2 ?k2 ?a3 ?l3 ?c3 ?k3 ?a4 ?l4 ?c4 ?k4 ?a5 ?l5 ?c5 ?k5 ?a6 ?l6 ?c6 ?k6 ?a7 ?l7 ?c7 ?k7 ?a8 ?l8 ?c8 ?k8 ?a9 ?l9 ?c9 ?k9 ?a10 ?l10 ?c10 ?k10 ?a11 ?l11 ?c11 ?k11 ?a12 ?l12 ?c12 ?k12 ?a13 ?l13 ?c13 ?k13 ?a14 ?l14 ?c14 ?k14 ?a15 ?l15 ?c15 ?k15 ?a16 ?l16 ?c16 ?k16 ?a17 ?l17 ?c17 ?k17 ?a18 ?l18 ?c18 ?k18 ?a19 ?l19 ?c19 ?k19 ?a20 ?l20 ?c20 ?k20 ?a21 ?l21 ?c21 ?k21 ?a22 ?l22 ?c22 ?k22 ?a23 ?l23 ?c23 ?k23 ?a24 ?l24 ?c24 ?k24 ?a25 ?l25 ?c25 ?k25 ?a26 ?l26 ?c26 ?k26 ?a27 ?l27 ?c27 ?k27 ?a28 ?l28 ?c28 ?k28 ?a29 ?l29 ?c29 ?k29 ?a30 ?l30 ?c30 ?k30 ?a31 ?l31 ?c31 ?k31 ?a32 ?l32 ?c32 ?k32 ?a33 ?l33 ?c33 ?k33 ?a34 ?l34 ?c34 ?k34 ?a35 ?l35 ?c35 ?k35 ?z1 ?z2 ?z3 ?z4 ?z5 ?z6 ?z7 ?z8 ?z9 ?z10 ?z11 ?z12 ?z13 ?z14 ?y1 ?y2 ?ca_BadParting ?ca_BadLot ?ca_BadNumber ?ex
    (case a1 => k_is); (case l1 => k_is); (case c1 => k_is); (case k1 => k_is); (case a2 => k_is); (case l2 => k_is); (case c2 => k_is); (case k2 => k_is); (case a3 => k_is); (case l3 => k_is); (case c3 => k_is); (case k3 => k_is); (case a4 => k_is); (case l4 => k_is); (case c4 => k_is); (case k4 => k_is); (case a5 => k_is); (case l5 => k_is); (case c5 => k_is); (case k5 => k_is); (case a6 => k_is); (case l6 => k_is); (case c6 => k_is); (case k6 => k_is); (case a7 => k_is); (case l7 => k_is); (case c7 => k_is); (case k7 => k_is); (case a8 => k_is); (case l8 => k_is); (case c8 => k_is); (case k8 => k_is); (case a9 => k_is); (case l9 => k_is); (case c9 => k_is); (case k9 => k_is); (case a10 => k_is); (case l10 => k_is); (case c10 => k_is); (case k10 => k_is); (case a11 => k_is); (case l11 => k_is); (case c11 => k_is); (case k11 => k_is); (case a12 => k_is); (case l12 => k_is); (case c12 => k_is); (case k12 => k_is); (case a13 => k_is); (case l13 => k_is); (case c13 => k_is); (case k13 => k_is); (case a14 => k_is); (case l14 => k_is); (case c14 => k_is); (case k14 => k_is); (case a15 => k_is); (case l15 => k_is); (case c15 => k_is); (case k15 => k_is); (case a16 => k_is); (case l16 => k_is); (case c16 => k_is); (case k16 => k_is); (case a17 => k_is); (case l17 => k_is); (case c17 => k_is); (case k17 => k_is); (case a18 => k_is); (case l18 => k_is); (case c18 => k_is); (case k18 => k_is); (case a19 => k_is); (case l19 => k_is); (case c19 => k_is); (case k19 => k_is); (case a20 => k_is); (case l20 => k_is); (case c20 => k_is); (case k20 => k_is); (case a21 => k_is); (case l21 => k_is); (case c21 => k_is); (case k21 => k_is); (case a22 => k_is); (case l22 => k_is); (case c22 => k_is); (case k22 => k_is); (case a23 => k_is); (case l23 => k_is); (case c23 => k_is); (case k23 => k_is); (case a24 => k_is); (case l24 => k_is); (case c24 => k_is); (case k24 => k_is); (case a25 => k_is); (case l25 => k_is); (case c25 => k_is); (case k25 => k_is); (case a26 => k_is); (case l26 => k_is); (case c26 => k_is); (case k26 => k_is); (case a27 => k_is); (case l27 => k_is); (case c27 => k_is); (case k27 => k_is); (case a28 => k_is); (case l28 => k_is); (case c28 => k_is); (case k28 => k_is); (case a29 => k_is); (case l29 => k_is); (case c29 => k_is); (case k29 => k_is); (case a30 => k_is); (case l30 => k_is); (case c30 => k_is); (case k30 => k_is); (case a31 => k_is); (case l31 => k_is); (case c31 => k_is); (case k31 => k_is); (case a32 => k_is); (case l32 => k_is); (case c32 => k_is); (case k32 => k_is); (case a33 => k_is); (case l33 => k_is); (case c33 => k_is); (case k33 => k_is); (case a34 => k_is); (case l34 => k_is); (case c34 => k_is); (case k34 => k_is); (case a35 => k_is); (case l35 => k_is); (case c35 => k_is); (case k35 => k_is); (case z1 => k_is); (case z2 => k_is); (case z3 => k_is); (case z4 => k_is); (case z5 => k_is); (case z6 => k_is); (case z7 => k_is); (case z8 => k_is); (case z9 => k_is); (case z10 => k_is); (case z11 => k_is); (case z12 => k_is); (case z13 => k_is); (case z14 => k_is); (case y1 => k_is); (case y2 => k_is); (case ca_BadParting => k_is); (case ca_BadLot => k_is); (case ca_BadNumber => k_is)
    (case ex =>
      intro base
      refine' K15.Exs.mk ?e_BadParting (PySem.W.mg_of KX G ?ma_BadParting) (VL.tells_cons (PySem.W.mg_of KX G ?tm_BadParting_BadParting) ?tt_BadParting_BadParting rfl (VL.tells_cons (PySem.W.mg_of KX G ?tm_BadParting_BadLot) ?tt_BadParting_BadLot rfl (VL.tells_cons (PySem.W.mg_of KX G ?tm_BadParting_BadNumber) ?tt_BadParting_BadNumber rfl VL.tells_nil))) ⟨?xa_BadParting, ?xb_BadParting, ?xc_BadParting, ?xd_BadParting⟩ ?f_BadParting_place ?e_BadLot (PySem.W.mg_of KX G ?ma_BadLot) (VL.tells_cons (PySem.W.mg_of KX G ?tm_BadLot_BadParting) ?tt_BadLot_BadParting rfl (VL.tells_cons (PySem.W.mg_of KX G ?tm_BadLot_BadLot) ?tt_BadLot_BadLot rfl (VL.tells_cons (PySem.W.mg_of KX G ?tm_BadLot_BadNumber) ?tt_BadLot_BadNumber rfl VL.tells_nil))) ⟨?xa_BadLot, ?xb_BadLot, ?xc_BadLot, ?xd_BadLot⟩ ?f_BadLot_word ?e_BadNumber (PySem.W.mg_of KX G ?ma_BadNumber) (VL.tells_cons (PySem.W.mg_of KX G ?tm_BadNumber_BadParting) ?tt_BadNumber_BadParting rfl (VL.tells_cons (PySem.W.mg_of KX G ?tm_BadNumber_BadLot) ?tt_BadNumber_BadLot rfl (VL.tells_cons (PySem.W.mg_of KX G ?tm_BadNumber_BadNumber) ?tt_BadNumber_BadNumber rfl VL.tells_nil))) ⟨?xa_BadNumber, ?xb_BadNumber, ?xc_BadNumber, ?xd_BadNumber⟩ ?f_BadNumber_value
      (case ma_BadParting => k_is)
      (case tm_BadParting_BadParting => k_is); (case tt_BadParting_BadParting => kernel_rfl)
      (case tm_BadParting_BadLot => k_is); (case tt_BadParting_BadLot => kernel_rfl)
      (case tm_BadParting_BadNumber => k_is); (case tt_BadParting_BadNumber => kernel_rfl)
      (case xa_BadParting => k_is); (case xb_BadParting => k_is); (case xc_BadParting => k_is); (case xd_BadParting => k_is)
      (case f_BadParting_place => k_is)
      (case e_BadParting =>
        refine' VL.erC1 K15.ini_BadParting (VL.sup_mk KX G (VL.oex_mk ?o1 ?o2 ?o3 ?o4 ?o5 ?o6) ?i3 ?i5 ?i6 ?i7 ?i8 ?tp ?ns ?oq ?i9 ?i10 ?i11) (PySem.W.mg_of KX G ?a) rfl ?i1 ?i2 ?i4 ?hf (by decide) (by decide) (fun _ => rfl) (fun _ => rfl) (fun _ => ⟨_, rfl⟩) (fun _ => rfl) (fun _ => rfl)
        (case a => k_is)
        (case o1 => k_is)
        (case o2 => kernel_rfl)
        (case o3 => k_is)
        (case o4 => k_is)
        (case o5 => k_is)
        (case o6 => k_is)
        (case i1 => k_is)
        (case i2 => k_is)
        (case i3 => k_is)
        (case i4 => k_is)
        (case i5 => k_is)
        (case i6 => k_is)
        (case i7 => rfl)
        (case i8 => kernel_rfl)
        (case tp => kernel_rfl)
        (case ns => k_is); (case oq => k_is)
        (case i9 => kernel_rfl)
        (case i10 => k_is); (case i11 => k_is); (case hf => k_is))
      (case ma_BadLot => k_is)
      (case tm_BadLot_BadParting => k_is); (case tt_BadLot_BadParting => kernel_rfl)
      (case tm_BadLot_BadLot => k_is); (case tt_BadLot_BadLot => kernel_rfl)
      (case tm_BadLot_BadNumber => k_is); (case tt_BadLot_BadNumber => kernel_rfl)
      (case xa_BadLot => k_is); (case xb_BadLot => k_is); (case xc_BadLot => k_is); (case xd_BadLot => k_is)
      (case f_BadLot_word => k_is)
      (case e_BadLot =>
        refine' VL.erC1 K15.ini_BadLot (VL.sup_mk KX G (VL.oex_mk ?o1 ?o2 ?o3 ?o4 ?o5 ?o6) ?i3 ?i5 ?i6 ?i7 ?i8 ?tp ?ns ?oq ?i9 ?i10 ?i11) (PySem.W.mg_of KX G ?a) rfl ?i1 ?i2 ?i4 ?hf (by decide) (by decide) (fun _ => rfl) (fun _ => rfl) (fun _ => ⟨_, rfl⟩) (fun _ => rfl) (fun _ => rfl)
        (case a => k_is)
        (case o1 => k_is)
        (case o2 => kernel_rfl)
        (case o3 => k_is)
        (case o4 => k_is)
        (case o5 => k_is)
        (case o6 => k_is)
        (case i1 => k_is)
        (case i2 => k_is)
        (case i3 => k_is)
        (case i4 => k_is)
        (case i5 => k_is)
        (case i6 => k_is)
        (case i7 => rfl)
        (case i8 => kernel_rfl)
        (case tp => kernel_rfl)
        (case ns => k_is); (case oq => k_is)
        (case i9 => kernel_rfl)
        (case i10 => k_is); (case i11 => k_is); (case hf => k_is))
      (case ma_BadNumber => k_is)
      (case tm_BadNumber_BadParting => k_is); (case tt_BadNumber_BadParting => kernel_rfl)
      (case tm_BadNumber_BadLot => k_is); (case tt_BadNumber_BadLot => kernel_rfl)
      (case tm_BadNumber_BadNumber => k_is); (case tt_BadNumber_BadNumber => kernel_rfl)
      (case xa_BadNumber => k_is); (case xb_BadNumber => k_is); (case xc_BadNumber => k_is); (case xd_BadNumber => k_is)
      (case f_BadNumber_value => k_is)
      (case e_BadNumber =>
        refine' VL.erC1 K15.ini_BadNumber (VL.sup_mk KX G (VL.oex_mk ?o1 ?o2 ?o3 ?o4 ?o5 ?o6) ?i3 ?i5 ?i6 ?i7 ?i8 ?tp ?ns ?oq ?i9 ?i10 ?i11) (PySem.W.mg_of KX G ?a) rfl ?i1 ?i2 ?i4 ?hf (by decide) (by decide) (fun _ => rfl) (fun _ => rfl) (fun _ => ⟨_, rfl⟩) (fun _ => rfl) (fun _ => rfl)
        (case a => k_is)
        (case o1 => k_is)
        (case o2 => kernel_rfl)
        (case o3 => k_is)
        (case o4 => k_is)
        (case o5 => k_is)
        (case o6 => k_is)
        (case i1 => k_is)
        (case i2 => k_is)
        (case i3 => k_is)
        (case i4 => k_is)
        (case i5 => k_is)
        (case i6 => k_is)
        (case i7 => rfl)
        (case i8 => kernel_rfl)
        (case tp => kernel_rfl)
        (case ns => k_is); (case oq => k_is)
        (case i9 => kernel_rfl)
        (case i10 => k_is); (case i11 => k_is); (case hf => k_is)))
