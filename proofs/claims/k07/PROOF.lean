import PyProof.Rows.All
import Wide.All
import OpenK.AllK
import Wide.FinOn
import HandS.ForMost
import HandS.ForExc
import HandS.CallSlots
import HandS.Slots
import HandS.ExcValue
import HandS.ExcInit
import HandS.Lambda
import HandS.TupAny
import HandS.NoneIn
import HandS.Zip
import HandS.TupMul
import HandS.IsInst
import HandS.Style
import PyProof.Rows.SortShellAny
import PyProof.TupleOfSeq
import HandS.Flow
import HandS.ExcField
import HandS.SetFor
import HandS.ExcIs
import KE.GoesEnum
import HandS.SlotsOwn
import HandS.Defaults
import HandS.Star
import HandS.FltList
import KE.DataFind
import KE.KSortTupG
import HandS.TupSets
import PyProof.TupleOfStr
import HandS.ClsMeth
import HandS.NamedTupGet
import HandS.Conv
import HandS.Wide
import KE.KTryMore
import HandS.NamedTupSort
import HandS.Deep
import KE.KDictZip
import PyProof.CollectStr
import PyProof.EnumMake
import PyProof.ListStr
import HandS.CallLocal
import HandS.DictComp
import HandS.Iter
import HandS.Strs
import KE.KDictPairs
import HandS.DeepEq
import HandS.Replace
import KE.GoesRaise
import KE.KAsSuite
import KE.SortData
import KE.KDictSum
import KE.GoesZip
import HandS.FStr
import HandS.DictTup
import KE.KDictDisplayH
import KE.KDictWalk
import KE.GoesNewDict
import KE.SortKeyHeap
import HandS.EndTab
import HandS.ReplaceLit
import HandS.ListItems
import PySem.Challenge.RW_heirturns_k07_turns_by_their_runs
set_option Elab.async false
set_option linter.all false
set_option maxRecDepth 100000
set_option maxHeartbeats 4000000
namespace Lq
open PySem PySem.Spec PyProof.Rows L2
/-! ### plain data -/
inductive D where
  | non
  | bl (b : Bool)
  | int (i : Int)
  | str (s : Str)
  | lst (xs : List D)
  | tup (xs : List D)
  | obj (t : Nat) (fs : List D)
  | scr (ns : List Int)
inductive Cell where
  | no
  | d (x : D)
  | m (xs : List D)
  | b (ns : List Int)
  | s (t : Nat)
  | z
  | k (l : List (Key × D))
  | kt (l : List (List Key × D))
abbrev Rho := List Cell
/-- a value: data, or the list that a slot holds as its own -/
inductive VD where
  | d (x : D)
  | sl (i : Nat)
/-- an error: its class, its fields -/
structure Xn where
  t : Nat
  fs : List D
inductive R (α : Type) where
  | ok (a : α) (r : Rho)
  | err (x : Xn) (r : Rho)
  | bad
def R.bind {α β : Type} (r : R α) (k : α → Rho → R β) : R β := match r with
  | .ok a q => k a q
  | .err x q => .err x q
  | .bad => .bad
/-- what a def gives -/
inductive Res where
  | ok (d : D)
  | err (x : Xn)
  | bad
/-! ### what stays: all but the tables of code objects, which grow -/
def NoTb (o : HO) : Prop := ∀ ps, o ≠ .tbl ps
structure Same (S H : Hp) : Prop where
  at_ : ∀ b o, S b = some o → NoTb o → H b = some o
  tb : ∀ b ps, S b = some (.tbl ps) → ∃ qs, H b = some (.tbl qs)
theorem Same.get {S H : Hp} (e : Same S H) (b : Addr) (o : HO) (h : S b = some o) (n : NoTb o := by first | exact fun _ z => nomatch z | assumption) : H b = some o := e.at_ b o h n
instance {S H : Hp} : CoeFun (Same S H) fun _ => ∀ (b : Addr) (o : HO) (_ : S b = some o) (_ : NoTb o), H b = some o := ⟨@Same.get S H⟩
theorem Same.refl (S : Hp) : Same S S := ⟨fun _ _ h _ => h, fun _ ps h => ⟨ps, h⟩⟩
theorem Same.trans {S H G : Hp} (a : Same S H) (b : Same H G) : Same S G := ⟨fun c o h n => b.at_ c o (a.at_ c o h n) n, fun c ps h => by obtain ⟨qs, h1⟩ := a.tb c ps h; exact b.tb c qs h1⟩
theorem Same.free {S H : Hp} (e : Same S H) {l : Addr} (h : H l = none) : S l = none := by
  cases q : S l with
  | none => rfl
  | some o =>
    by_cases n : ∃ ps, o = .tbl ps
    · obtain ⟨ps, rfl⟩ := n
      obtain ⟨qs, z⟩ := e.tb l ps q
      rw [h] at z; cases z
    · have z := e.at_ l o q fun ps w => n ⟨ps, w⟩
      rw [h] at z; cases z
theorem Same.seq {K : PySem.W.Frag} {S H : Hp} {a : Addr} {xs : List V} (e : Same S H) (h : SqL K S a xs) : SqL K H a xs := by
  rcases h with (h | ⟨o, h⟩) | h
  · exact .inl (.inl (e _ _ h))
  · exact .inl (.inr ⟨o, e _ _ h⟩)
  · exact .inr h
theorem Same.of {S H : Hp} (h : ∀ b o, S b = some o → H b = some o) : Same S H := ⟨fun b o q _ => h b o q, fun b ps q => ⟨ps, h b _ q⟩⟩
theorem Same.step {S H S' H' : Hp} (e : Same S H) (h : ∀ b o, S' b = some o → H' b = some o ∨ (S b = some o ∧ H' b = H b)) : Same S' H' := ⟨fun b o q n => by
  rcases h b o q with z | ⟨z1, z2⟩
  · exact z
  · rw [z2]; exact e.at_ b o z1 n, fun b ps q => by
  rcases h b _ q with z | ⟨z1, z2⟩
  · exact ⟨ps, z⟩
  · rw [z2]; exact e.tb b ps z1⟩
theorem Same.eq {S H : Hp} {b : Addr} {o u : HO} (e : Same S H) (h : S b = some o) (h' : H b = some u) (n : NoTb u := by first | exact fun _ z => nomatch z | assumption) : o = u := by
  have nu : NoTb o := fun ps w => by
    subst w
    obtain ⟨qs, w⟩ := e.tb b ps h
    rw [h'] at w; cases w; exact n qs rfl
  have := e.at_ b o h nu
  rw [h'] at this; cases this; rfl
/-- no tuple -/
def NoT (o : HO) : Prop := ∀ xs, o ≠ .tup xs
/-- where something stands, something stands -/
theorem Same.there {S H : Hp} {b : Addr} {o : HO} (e : Same S H) (h : S b = some o) (n : NoT o) : ∃ u, H b = some u ∧ NoT u := by
  by_cases z : ∃ ps, o = .tbl ps
  · obtain ⟨ps, rfl⟩ := z
    obtain ⟨qs, w⟩ := e.tb b ps h
    exact ⟨_, w, fun _ z => nomatch z⟩
  · exact ⟨o, e.at_ b o h fun ps w => z ⟨ps, w⟩, n⟩
abbrev Tb := Nat → Addr
/-- the kinds of objects: errors below 20, instances with slots from 20 on -/
def flds : Nat → List Str
  | 0 => ["place"] | 1 => ["piece"] | 2 => ["number"] | 3 => ["name"] | 4 => ["number"] | 5 => ["given"] | 6 => ["given"] | 7 => ["name"] | 8 => ["given"] | 9 => ["name"] | 10 => ["name"] | 11 => ["number"]
  | _ => []
def isEx (t : Nat) : Bool := Nat.blt t 20
/-- instances with slots -/
def isSl (t : Nat) : Bool := Nat.ble 20 t && Nat.blt t 57
/-- tuples whose object is known -/
def isPt (t : Nat) : Bool := Nat.beq t 58
/-- dicts -/
def isDc (t : Nat) : Bool := Nat.beq t 59 || Nat.beq t 57
/-- defs as values -/
def isFn (t : Nat) : Bool := Nat.ble 60 t
theorem sl_ex {t : Nat} (h : isSl t = true) : isEx t = false := by
  unfold isSl at h
  unfold isEx
  rw [Bool.and_eq_true, Nat.ble_eq] at h
  cases q : Nat.blt t 20 with
  | false => rfl
  | true => rw [Nat.blt_eq] at q; omega
theorem fn_ex {t : Nat} (h : isFn t = true) : isEx t = false := by
  unfold isFn at h
  unfold isEx
  rw [Nat.ble_eq] at h
  cases q : Nat.blt t 20 with
  | false => rfl
  | true => rw [Nat.blt_eq] at q; omega
theorem fn_sl {t : Nat} (h : isFn t = true) : isSl t = false := by
  unfold isFn at h
  unfold isSl
  rw [Nat.ble_eq] at h
  cases q : Nat.blt t 57 with
  | false => rw [Bool.and_false]
  | true => rw [Nat.blt_eq] at q; omega
theorem pt_at {t : Nat} (h : isPt t = true) : t = 58 := Nat.eq_of_beq_eq_true h
theorem pt_ex {t : Nat} (h : isPt t = true) : isEx t = false := by rw [pt_at h]; rfl
theorem pt_sl {t : Nat} (h : isPt t = true) : isSl t = false := by rw [pt_at h]; rfl
theorem dc_at {t : Nat} (h : isDc t = true) : t = 59 ∨ t = 57 := by
  unfold isDc at h
  rw [Bool.or_eq_true] at h
  exact h.imp Nat.eq_of_beq_eq_true Nat.eq_of_beq_eq_true
theorem dc_ex {t : Nat} (h : isDc t = true) : isEx t = false := by rcases dc_at h with rfl | rfl <;> rfl
theorem dc_sl {t : Nat} (h : isDc t = true) : isSl t = false := by rcases dc_at h with rfl | rfl <;> rfl
/-- the keys and values of a dict, one behind the other -/
def flatKV : List (Key × V) → List V
  | [] => []
  | p :: r => L2.kV p.1 :: p.2 :: flatKV r
/-- a dict whose keys are tuples: of each pair the key's length, its items, the value -/
def flatKT : List (List Key × V) → List V
  | [] => []
  | p :: r => .int (p.1.length : Nat) :: (p.1.map L2.kV ++ p.2 :: flatKT r)
def DV (t : Nat) (u : HO) (vs : List V) : Prop := (t = 59 ∧ ∃ kvs : List (Key × V), u = .dK kvs ∧ vs = flatKV kvs) ∨ (t = 57 ∧ ∃ kvs : List (List Key × V), u = .dT kvs ∧ vs = flatKT kvs)
/-- an error that was caught, at a -/
def ExK (C d a : Addr) : HO := .ext fun h => ∃ (oe : Obj) (vs : Array Value), h.get? a = some oe ∧ Zc (.ref C) (some d) oe ∧ oe.data = .fields vs
def OB (T : Tb) (S : Hp) (t : Nat) (a : Addr) (vs : List V) : Prop :=
  (isEx t = true ∧ ∃ dd, S a = some (ExK (T t) dd a) ∧ S dd = some (.xd ((flds t).zip vs))) ∨ (isSl t = true ∧ ∃ dx, S a = some (SlX.SlO a (T t) dx (vs.map some)) ∧ S dx = some (.xd [])) ∨ (isFn t = true ∧ a = T t ∧ vs = []) ∨ (isDc t = true ∧ ∃ (o : Obj) (u : HO), S a = some (.frz o u) ∧ DV t u vs) ∨ (isPt t = true ∧ ∃ o : Obj, S a = some (.frz o (.tup vs)) ∧ o.dict = none)
theorem OB.mono {T : Tb} {S S' : Hp} {t : Nat} {a : Addr} {vs : List V} (e : Same S S') (h : OB T S t a vs) : OB T S' t a vs := by
  rcases h with ⟨h, dd, h1, h2⟩ | ⟨h, dd, h1, h2⟩ | h | ⟨h, o, kvs, h1, h2⟩ | ⟨h, o, h1, h2⟩
  · exact .inl ⟨h, dd, e _ _ h1, e _ _ h2⟩
  · exact .inr (.inl ⟨h, dd, e _ _ h1, e _ _ h2⟩)
  · exact .inr (.inr (.inl h))
  · exact .inr (.inr (.inr (.inl ⟨h, o, kvs, e _ _ h1, h2⟩)))
  · exact .inr (.inr (.inr (.inr ⟨h, o, e _ _ h1, h2⟩)))
mutual
def Rp (K : PySem.W.Frag) (T : Tb) (S : Hp) : D → V → Prop
  | .non, v => v = .non
  | .bl b, v => v = .bl b
  | .int i, v => v = .int i
  | .str x, v => v = .str x
  | .lst ds, v => ∃ a vs, v = .ref a ∧ S a = some (.lst vs) ∧ Rps K T S ds vs
  | .tup ds, v => ∃ a vs, v = .ref a ∧ SqT K S a vs ∧ Rps K T S ds vs
  | .obj t ds, v => ∃ a vs, v = .ref a ∧ OB T S t a vs ∧ Rps K T S ds vs
  | .scr ns, v => ∃ a, v = .ref a ∧ SqL K S a (ns.map V.int)
def Rps (K : PySem.W.Frag) (T : Tb) (S : Hp) : List D → List V → Prop
  | [], vs => vs = []
  | d :: ds, vs => ∃ v r, vs = v :: r ∧ Rp K T S d v ∧ Rps K T S ds r
end
section
variable {K : PySem.W.Frag} {T : Tb} {S S' : Hp}
theorem same_tup {a : Addr} {xs : List V} (e : Same S S') (h : SqT K S a xs) : SqT K S' a xs := by
  rcases h with h | h
  · rcases h with h | ⟨o, h⟩
    · exact .inl (.inl (e _ _ h))
    · exact .inl (.inr ⟨o, e _ _ h⟩)
  · exact .inr h
mutual
theorem Rp.mono (e : Same S S') : ∀ (d : D) (v : V), Rp K T S d v → Rp K T S' d v
  | .non, _, h => h
  | .bl _, _, h => h
  | .int _, _, h => h
  | .str _, _, h => h
  | .lst ds, _, ⟨a, vs, e1, h, hs⟩ => ⟨a, vs, e1, e _ _ h, Rps.mono e ds vs hs⟩
  | .tup ds, _, ⟨a, vs, e1, h, hs⟩ => ⟨a, vs, e1, same_tup e h, Rps.mono e ds vs hs⟩
  | .obj _ ds, _, ⟨a, vs, e1, h, hs⟩ => ⟨a, vs, e1, h.mono e, Rps.mono e ds vs hs⟩
  | .scr _, _, ⟨a, e1, h⟩ => ⟨a, e1, e.seq h⟩
theorem Rps.mono (e : Same S S') : ∀ (ds : List D) (vs : List V), Rps K T S ds vs → Rps K T S' ds vs
  | [], _, h => h
  | d :: ds, _, ⟨v, r, e1, h, hs⟩ => ⟨v, r, e1, Rp.mono e d v h, Rps.mono e ds r hs⟩
end
theorem Rps.len : ∀ {ds : List D} {vs : List V}, Rps K T S ds vs → vs.length = ds.length
  | [], _, h => by rw [show _ = [] from h]; rfl
  | d :: ds, _, ⟨v, r, e1, h, hs⟩ => by rw [e1, List.length_cons, List.length_cons, Rps.len hs]
theorem Rps.get : ∀ {ds : List D} {vs : List V} {i : Nat} {d : D}, Rps K T S ds vs → ds[i]? = some d → ∃ v, vs[i]? = some v ∧ Rp K T S d v
  | [], _, _, _, h, e => by simp at e
  | d :: ds, _, 0, _, ⟨v, r, e1, h, hs⟩, e => by
    simp at e; subst e; exact ⟨v, by rw [e1]; rfl, h⟩
  | d :: ds, _, i + 1, _, ⟨v, r, e1, h, hs⟩, e => by
    obtain ⟨w, h1, h2⟩ := Rps.get (i := i) hs (by simpa using e)
    exact ⟨w, by rw [e1]; simpa using h1, h2⟩
theorem Rps.append : ∀ {ds es : List D} {vs ws : List V}, Rps K T S ds vs → Rps K T S es ws → Rps K T S (ds ++ es) (vs ++ ws)
  | [], _, _, _, h, q => by rw [show _ = [] from h]; exact q
  | d :: ds, _, _, _, ⟨v, r, e1, h, hs⟩, q => ⟨v, r ++ _, by rw [e1]; rfl, h, Rps.append hs q⟩
theorem Rps.take : ∀ {ds : List D} {vs : List V} (n : Nat), Rps K T S ds vs → Rps K T S (ds.take n) (vs.take n)
  | _, _, 0, _ => by simp only [List.take_zero]; exact rfl
  | [], _, n + 1, h => by rw [show _ = [] from h]; simp only [List.take_nil]; exact rfl
  | d :: ds, _, n + 1, ⟨v, r, e1, h, hs⟩ => by rw [e1]; exact ⟨v, r.take n, rfl, h, Rps.take n hs⟩
theorem Rps.drop : ∀ {ds : List D} {vs : List V} (n : Nat), Rps K T S ds vs → Rps K T S (ds.drop n) (vs.drop n)
  | _, _, 0, h => h
  | [], _, n + 1, h => by rw [show _ = [] from h]; simp only [List.drop_nil]; exact rfl
  | d :: ds, _, n + 1, ⟨v, r, e1, h, hs⟩ => by rw [e1]; exact Rps.drop n hs
theorem Rps.reverse : ∀ {ds : List D} {vs : List V}, Rps K T S ds vs → Rps K T S ds.reverse vs.reverse
  | [], _, h => by rw [show _ = [] from h]; exact rfl
  | d :: ds, _, ⟨v, r, e1, h, hs⟩ => by
    rw [e1, List.reverse_cons, List.reverse_cons]
    exact Rps.append (Rps.reverse hs) ⟨v, [], rfl, h, rfl⟩
theorem Rps.one {d : D} {v : V} (h : Rp K T S d v) : Rps K T S [d] [v] := ⟨v, [], rfl, h, rfl⟩
theorem Rps.set : ∀ {ds : List D} {vs : List V} {d : D} {v : V} (i : Nat), Rps K T S ds vs → Rp K T S d v → Rps K T S (ds.set i d) (vs.set i v)
  | [], _, _, _, _, h, _ => by rw [show _ = [] from h]; exact rfl
  | d :: ds, _, _, _, 0, ⟨v, r, e1, h, hs⟩, q => by rw [e1]; exact ⟨_, r, rfl, q, hs⟩
  | d :: ds, _, _, _, i + 1, ⟨v, r, e1, h, hs⟩, q => by rw [e1]; exact ⟨v, _, rfl, h, Rps.set i hs q⟩
theorem Rps.ints : ∀ (ns : List Int), Rps K T S (ns.map D.int) (ns.map V.int)
  | [] => rfl
  | n :: ns => ⟨_, _, rfl, rfl, Rps.ints ns⟩
theorem Rps.strs : ∀ (ns : List Str), Rps K T S (ns.map D.str) (ns.map V.str)
  | [] => rfl
  | n :: ns => ⟨_, _, rfl, rfl, Rps.strs ns⟩
/-- ints read back -/
def D.int? : D → Option Int
  | .int i => some i
  | _ => none
def D.str? : D → Option Str
  | .str i => some i
  | _ => none
def D.bl? : D → Option Bool
  | .bl i => some i
  | _ => none
def D.items? : D → Option (List D)
  | .lst xs => some xs
  | .tup xs => some xs
  | _ => none
def allOf {α : Type} (f : D → Option α) : List D → Option (List α)
  | [] => some []
  | d :: ds => match f d, allOf f ds with
    | some a, some l => some (a :: l)
    | _, _ => none
theorem allOf_ints : ∀ {ds : List D} {ns : List Int}, allOf D.int? ds = some ns → ds = ns.map D.int
  | [], ns, h => by simp [allOf] at h; subst h; rfl
  | d :: ds, ns, h => by
    cases d <;> simp [allOf, D.int?] at h
    rename_i i
    cases q : allOf D.int? ds with
    | none => rw [q] at h; simp at h
    | some l => rw [q] at h; simp at h; subst h; rw [allOf_ints q]; rfl
theorem allOf_bls : ∀ {ds : List D} {ns : List Bool}, allOf D.bl? ds = some ns → ds = ns.map D.bl
  | [], ns, h => by simp [allOf] at h; subst h; rfl
  | d :: ds, ns, h => by
    cases d <;> simp [allOf, D.bl?] at h
    rename_i i
    cases q : allOf D.bl? ds with
    | none => rw [q] at h; simp at h
    | some l => rw [q] at h; simp at h; subst h; rw [allOf_bls q]; rfl
theorem Rps.intsV : ∀ {ns : List Int} {vs : List V}, Rps K T S (ns.map D.int) vs → vs = ns.map V.int
  | [], _, h => h
  | n :: ns, _, ⟨v, r, e1, h, hs⟩ => by rw [e1, show v = _ from h, Rps.intsV hs]; rfl
theorem Rps.blsV : ∀ {ns : List Bool} {vs : List V}, Rps K T S (ns.map D.bl) vs → vs = ns.map V.bl
  | [], _, h => h
  | n :: ns, _, ⟨v, r, e1, h, hs⟩ => by rw [e1, show v = _ from h, Rps.blsV hs]; rfl
/-! ### the table of code objects of a def that makes a lambda -/
def lamQ : Str := "by_price.<locals>.<lambda>"
def Tabs (T : Tb) (H : Hp) : Prop := T 91 = 1 → LamX.TabS H (T 90) lamQ
structure SameT (T : Tb) (S H : Hp) : Prop extends Same S H where
  tab : Tabs T H
theorem SameT.get {T : Tb} {S H : Hp} (e : SameT T S H) (b : Addr) (o : HO) (h : S b = some o) (n : NoTb o := by first | exact fun _ z => nomatch z | assumption) : H b = some o := e.at_ b o h n
instance {T : Tb} {S H : Hp} : CoeFun (SameT T S H) fun _ => ∀ (b : Addr) (o : HO) (_ : S b = some o) (_ : NoTb o), H b = some o := ⟨@SameT.get T S H⟩
instance {T : Tb} {S H : Hp} : CoeOut (SameT T S H) (Same S H) := ⟨SameT.toSame⟩
/-- tables and code objects stay as they are -/
structure Keep (H H' : Hp) : Prop where
  t : ∀ b ps, H b = some (.tbl ps) → H' b = some (.tbl ps)
  c : ∀ c q, H c = some (LamX.CodeO c q) → H' c = some (LamX.CodeO c q)
theorem Keep.tabs {T : Tb} {H H' : Hp} (k : Keep H H') (t : Tabs T H) : Tabs T H' := fun h => by
  obtain ⟨ps, h1, h2, h3⟩ := t h
  refine ⟨ps, k.t _ _ h1, h2, fun pos cv hc => ?_⟩
  obtain ⟨c, e1, e2⟩ := h3 pos cv hc
  exact ⟨c, e1, k.c _ _ e2⟩
theorem Keep.all {H H' : Hp} (h : ∀ b o, H b = some o → H' b = some o) : Keep H H' := ⟨fun b _ q => h b _ q, fun c _ q => h c _ q⟩
theorem Keep.refl (H : Hp) : Keep H H := .all fun _ _ h => h
theorem Keep.new {H : Hp} {p : Addr} {o : HO} (h : H p = none) : Keep H (upd H p o) := .all fun b u e => by
  rw [upd_ne (ne_of_none e h)]; exact e
/-- a plain thing is changed -/
theorem Keep.upd {H : Hp} {p : Addr} {u o : HO} (h : H p = some u) (n : NoTb u := by exact fun _ z => nomatch z) (m : ∀ φ, u ≠ .ext φ := by exact fun _ z => nomatch z) : Keep H (L2.upd H p o) := ⟨fun b ps q => by
  rw [upd_ne (fun z => by subst z; rw [h] at q; exact n ps (Option.some.inj q))]; exact q, fun c r q => by
  rw [upd_ne (fun z => by subst z; rw [h] at q; exact m _ (Option.some.inj q))]; exact q⟩
theorem Keep.trans {H H1 H2 : Hp} (a : Keep H H1) (b : Keep H1 H2) : Keep H H2 := ⟨fun c ps q => b.t c ps (a.t c ps q), fun c r q => b.c c r (a.c c r q)⟩
/-! ### heaps grow -/
structure Ext (T : Tb) (S H S' H' : Hp) : Prop where
  s : Same S S'
  h : Same H H'
  sh : SameT T S' H'
  fr : ∀ b o, H b = some o → NoT o → S b = none → S' b = none
theorem Ext.refl {T : Tb} {S H : Hp} (e : SameT T S H) : Ext T S H S H := ⟨Same.refl _, Same.refl _, e, fun _ _ _ _ z => z⟩
theorem Ext.trans {T : Tb} {S H S1 H1 S2 H2 : Hp} (a : Ext T S H S1 H1) (b : Ext T S1 H1 S2 H2) : Ext T S H S2 H2 :=
  ⟨a.s.trans b.s, a.h.trans b.h, b.sh, fun c o e n => by obtain ⟨u, h1, n1⟩ := a.h.there e n; exact fun z => b.fr c u h1 n1 (a.fr c o e n z)⟩
theorem same_new {H : Hp} {p : Addr} {o : HO} (h : H p = none) : Same H (upd H p o) := .of fun b u e => by
  rw [upd_ne (ne_of_none e h)]; exact e
theorem Same.new1 {S H : Hp} {p : Addr} {o : HO} (e : Same S H) (h : H p = some o) : Same (upd S p o) H := ⟨fun b u q n => by
  by_cases hb : b = p
  · subst hb; rw [upd_same] at q; rw [← q]; exact h
  · rw [upd_ne hb] at q; exact e.at_ b u q n, fun b ps q => by
  by_cases hb : b = p
  · subst hb; rw [upd_same] at q; injection q with q; subst q; exact ⟨_, h⟩
  · rw [upd_ne hb] at q; exact e.tb b ps q⟩
theorem same_upd2 {S H : Hp} {p : Addr} {o : HO} (e : Same S H) : Same (upd S p o) (upd H p o) := ⟨fun b u q n => by
  by_cases hb : b = p
  · subst hb; rw [upd_same] at q ⊢; exact q
  · rw [upd_ne hb] at q ⊢; exact e.at_ b u q n, fun b ps q => by
  by_cases hb : b = p
  · subst hb; rw [upd_same] at q ⊢; exact ⟨_, q⟩
  · rw [upd_ne hb] at q ⊢; exact e.tb b ps q⟩
theorem SameT.new {T : Tb} {S H : Hp} {p : Addr} {o : HO} (e : SameT T S H) (h : H p = none) : SameT T (upd S p o) (upd H p o) := ⟨same_upd2 e.toSame, (Keep.new h).tabs e.tab⟩
theorem SameT.skip {T : Tb} {S H : Hp} {p : Addr} {o : HO} (e : SameT T S H) (h : H p = none) : SameT T S (upd H p o) := ⟨e.toSame.trans (same_new h), (Keep.new h).tabs e.tab⟩
theorem SameT.new1 {T : Tb} {S H : Hp} {p : Addr} {o : HO} (e : SameT T S H) (h : H p = some o) : SameT T (upd S p o) H := ⟨e.toSame.new1 h, e.tab⟩
theorem SameT.step {T : Tb} {S H S' H' : Hp} (e : SameT T S H) (k : Keep H H') (h : ∀ b o, S' b = some o → H' b = some o ∨ (S b = some o ∧ H' b = H b)) : SameT T S' H' := ⟨e.toSame.step h, k.tabs e.tab⟩
theorem Ext.new {T : Tb} {S H : Hp} {p : Addr} {o : HO} (e : SameT T S H) (h : H p = none) : Ext T S H (upd S p o) (upd H p o) :=
  ⟨same_new (e.free h), same_new h, e.new h, fun b u q _ z => by rw [upd_ne (ne_of_none q h)]; exact z⟩
theorem Ext.skip {T : Tb} {S H : Hp} {p : Addr} {o : HO} (e : SameT T S H) (h : H p = none) : Ext T S H S (upd H p o) :=
  ⟨Same.refl _, same_new h, e.skip h, fun b u q _ z => z⟩
/-- what comes is d, behind a growth of the heap -/
def Gv (K : PySem.W.Frag) (T : Tb) (S H : Hp) (d : D) (Q : VK) : Prop := ∀ S' H' v, Ext T S H S' H' → Rp K T S' d v → Q v H'
/-- .. a new list, that nobody else has -/
def Gf (K : PySem.W.Frag) (T : Tb) (S H : Hp) (ds : List D) (Q : VK) : Prop := ∀ S' H' p vs, Ext T S H S' H' → H p = none → S' p = none → H' p = some (.lst vs) → Rps K T S' ds vs → Q (.ref p) H'
theorem Gv.now {H : Hp} {d : D} {v : V} {Q : VK} (g : Gv K T S H d Q) (e : SameT T S H) (r : Rp K T S d v) : Q v H := g S H v (Ext.refl e) r
theorem Gv.newL {H : Hp} {ds : List D} {vs : List V} {Q : VK} (g : Gv K T S H (.lst ds) Q) (e : SameT T S H) (r : Rps K T S ds vs) (p : Addr) (hp : H p = none) : Q (.ref p) (upd H p (.lst vs)) :=
  g _ _ _ (Ext.new e hp) ⟨p, vs, rfl, upd_same, Rps.mono (same_new (e.free hp)) _ _ r⟩
theorem Gv.newT {H : Hp} {ds : List D} {vs : List V} {Q : VK} (g : Gv K T S H (.tup ds) Q) (e : SameT T S H) (r : Rps K T S ds vs) (p : Addr) (hp : H p = none) : Q (.ref p) (upd H p (.tup vs)) :=
  g _ _ _ (Ext.new e hp) ⟨p, vs, rfl, SqT.of upd_same, Rps.mono (same_new (e.free hp)) _ _ r⟩
theorem Gf.new {H : Hp} {ds : List D} {vs : List V} {Q : VK} (g : Gf K T S H ds Q) (e : SameT T S H) (r : Rps K T S ds vs) (p : Addr) (hp : H p = none) : Q (.ref p) (upd H p (.lst vs)) :=
  g _ _ p vs (Ext.skip e hp) hp (e.free hp) upd_same r
theorem Gf.of {H : Hp} {ds : List D} {Q : VK} (g : Gv K T S H (.lst ds) Q) : Gf K T S H ds Q := fun S' H' p vs e hp sp hv r =>
  g (upd S' p (.lst vs)) H' (.ref p) ⟨e.s.trans (same_new sp), e.h, e.sh.new1 hv, fun b o q n => by rw [upd_ne (ne_of_none q hp)]; exact e.fr b o q n⟩ ⟨p, vs, rfl, upd_same, Rps.mono (same_new sp) _ _ r⟩
/-! ### a def's slots -/
/-- what a def may change of its caller's: nothing; the list of draws; the instance that it makes, with its dict -/
inductive Bt where
  | no
  | bx (b : Addr)
  | sf (a dx : Addr)
def CellOk (K : PySem.W.Frag) (T : Tb) (β : Bt) (G S H : Hp) (v : Option (Option V)) : Cell → Prop
  | .no => True
  | .d x => ∃ u, v = some (some u) ∧ Rp K T S x u
  | .m xs => ∃ a vs, v = some (some (.ref a)) ∧ H a = some (.lst vs) ∧ S a = none ∧ G a = none ∧ β ≠ .bx a ∧ Rps K T S xs vs
  | .b ns => ∃ a, v = some (some (.ref a)) ∧ β = .bx a ∧ H a = some (.lst (ns.map V.int))
  | .k l => ∃ a kvs, v = some (some (.ref a)) ∧ H a = some (.dK kvs) ∧ S a = none ∧ G a = none ∧ β ≠ .bx a ∧ kvs.map (·.1) = l.map (·.1) ∧ Rps K T S (l.map (·.2)) (kvs.map (·.2))
  | .kt l => ∃ a kvs, v = some (some (.ref a)) ∧ H a = some (.dT kvs) ∧ S a = none ∧ G a = none ∧ β ≠ .bx a ∧ kvs.map (·.1) = l.map (·.1) ∧ Rps K T S (l.map (·.2)) (kvs.map (·.2))
  | .z => ∃ a dx, v = some (some (.ref a)) ∧ β = .sf a dx
  | .s t => ∃ a dx, v = some (some (.ref a)) ∧ β = .sf a dx ∧ H a = some (.ins (T t) dx []) ∧ H dx = some (.own a) ∧ S dx = none ∧ G dx = none ∧ S a = none ∧ G a = none
structure Ok (K : PySem.W.Frag) (T : Tb) (β : Bt) (G S : Hp) (σ : L2.St) (ρ : Rho) (H : Hp) : Prop where
  sh : SameT T S H
  gh : Same G H
  gs : ∀ b o, G b = some o → NoT o → S b = none
  gb : ∀ b, β = .bx b → G b = none ∧ S b = none
  bx : ∀ b, β = .bx b → ∃ o : HO, H b = some o ∧ NoT o
  len : σ.length = ρ.length
  cel : ∀ (i : Nat) (c : Cell), ρ[i]? = some c → CellOk K T β G S H σ[i]? c
  dis : ∀ (i j : Nat) (xs ys : List D), ρ[i]? = some (.m xs) → ρ[j]? = some (.m ys) → σ[i]? = σ[j]? → i = j
theorem CellOk.ext {β : Bt} {G H H' : Hp} {v : Option (Option V)} {c : Cell} (h : CellOk K T β G S H v c) (e : Ext T S H S' H') : CellOk K T β G S' H' v c := by
  cases c with
  | no => trivial
  | d x => obtain ⟨u, e1, r⟩ := h; exact ⟨u, e1, Rp.mono e.s _ _ r⟩
  | m xs =>
    obtain ⟨a, vs, e1, e2, e3, e4, e5, r⟩ := h
    exact ⟨a, vs, e1, e.h _ _ e2, (e.fr _ _ e2 (fun _ z => nomatch z) e3), e4, e5, Rps.mono e.s _ _ r⟩
  | b ns => obtain ⟨a, e1, e2, e3⟩ := h; exact ⟨a, e1, e2, e.h _ _ e3⟩
  | k l => obtain ⟨a, kvs, e1, e2, e3, e4, e5, ek, r⟩ := h; exact ⟨a, kvs, e1, e.h _ _ e2, (e.fr _ _ e2 (fun _ z => nomatch z) e3), e4, e5, ek, Rps.mono e.s _ _ r⟩
  | kt l => obtain ⟨a, kvs, e1, e2, e3, e4, e5, ek, r⟩ := h; exact ⟨a, kvs, e1, e.h _ _ e2, (e.fr _ _ e2 (fun _ z => nomatch z) e3), e4, e5, ek, Rps.mono e.s _ _ r⟩
  | z => first | exact h1 | exact h | (obtain ⟨_, _, _, e2⟩ := h1; cases e2) | cases hpi | cases hk' | cases pl
  | s t => obtain ⟨a, dx, e1, e2, e3, e4, e5, e6, e7, e8⟩ := h; exact ⟨a, dx, e1, e2, e.h _ _ e3, e.h _ _ e4, (e.fr _ _ e4 (fun _ z => nomatch z) e5), e6, (e.fr _ _ e3 (fun _ z => nomatch z) e7), e8⟩
theorem Ok.ext {β : Bt} {G H H' : Hp} {σ : L2.St} {ρ : Rho} (o : Ok K T β G S σ ρ H) (e : Ext T S H S' H') : Ok K T β G S' σ ρ H' where
  sh := e.sh
  gh := o.gh.trans e.h
  gs := fun b u q n => by obtain ⟨u1, h1, n1⟩ := o.gh.there q n; exact (e.fr b u1 h1 n1 (o.gs b u q n))
  gb := fun b q => ⟨(o.gb b q).1, by obtain ⟨u, z, n⟩ := o.bx b q; exact (e.fr b _ z n ((o.gb b q).2))⟩
  bx := fun b q => by obtain ⟨u, z, n⟩ := o.bx b q; exact e.h.there z n
  len := o.len
  cel := fun i c q => (o.cel i c q).ext e
  dis := o.dis
/-! ### resolving -/
def RpV (K : PySem.W.Frag) (T : Tb) (σ : L2.St) (S : Hp) : VD → V → Prop
  | .d x, u => Rp K T S x u
  | .sl i, u => σ[i]? = some (some u)
def res : VD → Rho → Option D
  | .d x, _ => some x
  | .sl i, ρ => match ρ[i]? with
    | some (.m xs) => some (.lst xs)
    | some (.b ns) => some (.lst (ns.map D.int))
    | _ => none
/-- d at the top in H, its items in S -/
def RpH (K : PySem.W.Frag) (T : Tb) (S H : Hp) (d : D) (v : V) : Prop := Rp K T S d v ∨ ∃ a vs xs, v = .ref a ∧ d = .lst xs ∧ H a = some (.lst vs) ∧ Rps K T S xs vs
theorem RpV.mono {σ : L2.St} {v : VD} {u : V} (e : Same S S') (h : RpV K T σ S v u) : RpV K T σ S' v u := by
  cases v with
  | d x => exact Rp.mono e _ _ h
  | sl i => exact h
theorem Ok.res {β : Bt} {G H : Hp} {σ : L2.St} {ρ : Rho} {v : VD} {u : V} {d : D} (o : Ok K T β G S σ ρ H) (h : RpV K T σ S v u) (e : res v ρ = some d) : RpH K T S H d u := by
  cases v with
  | d x => simp only [Lq.res, Option.some.injEq] at e; subst e; exact .inl h
  | sl i =>
    simp only [Lq.res] at e
    have h' : σ[i]? = some (some u) := h
    split at e
    · rename_i xs q
      cases e
      obtain ⟨a, vs, e1, e2, e3, e4, e5, r⟩ := o.cel i _ q
      rw [h'] at e1; cases e1
      exact .inr ⟨a, vs, xs, rfl, rfl, e2, r⟩
    · rename_i ns q
      cases e
      obtain ⟨a, e1, e2, e3⟩ := o.cel i _ q
      rw [h'] at e1; cases e1
      exact .inr ⟨a, _, _, rfl, rfl, e3, Rps.ints ns⟩
    · cases e
theorem RpH.int {H : Hp} {i : Int} {v : V} (h : RpH K T S H (.int i) v) : v = .int i := by
  rcases h with h | ⟨_, _, _, _, e, _⟩
  · exact h
  · cases e
theorem RpH.str {H : Hp} {i : Str} {v : V} (h : RpH K T S H (.str i) v) : v = .str i := by
  rcases h with h | ⟨_, _, _, _, e, _⟩
  · exact h
  · cases e
theorem RpH.bl {H : Hp} {i : Bool} {v : V} (h : RpH K T S H (.bl i) v) : v = .bl i := by
  rcases h with h | ⟨_, _, _, _, e, _⟩
  · exact h
  · cases e
theorem RpH.non {H : Hp} {v : V} (h : RpH K T S H .non v) : v = .non := by
  rcases h with h | ⟨_, _, _, _, e, _⟩
  · exact h
  · cases e
theorem RpH.lst {H : Hp} {xs : List D} {v : V} (h : RpH K T S H (.lst xs) v) (e : SameT T S H) : ∃ a vs, v = .ref a ∧ H a = some (.lst vs) ∧ Rps K T S xs vs := by
  rcases h with ⟨a, vs, e1, q, r⟩ | ⟨a, vs, ys, e1, e2, q, r⟩
  · exact ⟨a, vs, e1, e _ _ q, r⟩
  · cases e2; exact ⟨a, vs, e1, q, r⟩
theorem RpH.tup {H : Hp} {xs : List D} {v : V} (h : RpH K T S H (.tup xs) v) (e : SameT T S H) : ∃ a vs, v = .ref a ∧ SqT K H a vs ∧ Rps K T S xs vs := by
  rcases h with ⟨a, vs, e1, q, r⟩ | ⟨a, vs, ys, e1, e2, q, r⟩
  · exact ⟨a, vs, e1, same_tup e q, r⟩
  · cases e2
end
/-! ### what is wanted behind a piece of code -/
/-- an error, as it lies -/
def XR (K : PySem.W.Frag) (T : Tb) (S : Hp) (x : Xn) (c : Value) (d : Option Addr) : Prop :=
  c = .ref (T x.t) ∧ ∃ dd vs, d = some dd ∧ S dd = some (.xd ((flds x.t).zip vs)) ∧ Rps K T S x.fs vs
def Post (K : PySem.W.Frag) (T : Tb) (W : WX) (β : Bt) (G S : Hp) (σ : L2.St) {α γ : Type} (Rl : Hp → α → γ → Prop) (r : R α) (Q : γ → Hp → Prop) : Prop := match r with
  | .ok a ρ' => ∀ S' H' u, Same S S' → Ok K T β G S' σ ρ' H' → Rl S' a u → Q u H'
  | .err x ρ' => ∀ S' H' c d, Same S S' → Ok K T β G S' σ ρ' H' → XR K T S' x c d → W c d σ H'
  | .bad => False
def rG (K : PySem.W.Frag) (T : Tb) (W : WX) {α γ : Type} (Rl : L2.St → Hp → α → γ → Prop) (f : Rho → R α) : L2.St → Hp → (γ → Hp → Prop) → Prop := fun σ H Q =>
  ∃ β G S ρ, Ok K T β G S σ ρ H ∧ Post K T W β G S σ (Rl σ) (f ρ) Q
section
variable {K : PySem.W.Frag} {T : Tb} {W : WX} {β : Bt} {G S S' : Hp} {σ : L2.St} {α γ α' γ' : Type} {Rl : Hp → α → γ → Prop} {Rl' : Hp → α' → γ' → Prop}
theorem Post.mono {r : R α} {Q : γ → Hp → Prop} (h : Post K T W β G S σ Rl r Q) (e : Same S S') : Post K T W β G S' σ Rl r Q := by
  cases r with
  | ok a ρ' => exact fun S2 H2 u e2 o r => h S2 H2 u (e.trans e2) o r
  | err x ρ' => exact fun S2 H2 c d e2 o r => h S2 H2 c d (e.trans e2) o r
  | bad => exact h
theorem Post.bind {r : R α} {k : α → Rho → R α'} {Q : γ' → Hp → Prop} (h : Post K T W β G S σ Rl' (r.bind k) Q) :
    Post K T W β G S σ Rl r (fun u H1 => ∃ S1 ρ1 a, Same S S1 ∧ Ok K T β G S1 σ ρ1 H1 ∧ Rl S1 a u ∧ Post K T W β G S1 σ Rl' (k a ρ1) Q) := by
  cases r with
  | ok a ρ' => exact fun S1 H1 u e o q => ⟨S1, ρ', a, e, o, q, h.mono e⟩
  | err x ρ' => exact h
  | bad => exact h.elim
theorem Post.thn {r : R α} {k : α → Rho → R α'} {Q : γ' → Hp → Prop} {Q' : γ → Hp → Prop} (h : Post K T W β G S σ Rl' (r.bind k) Q)
    (f : ∀ S1 H1 ρ1 a u, Same S S1 → Ok K T β G S1 σ ρ1 H1 → Rl S1 a u → Post K T W β G S1 σ Rl' (k a ρ1) Q → Q' u H1) : Post K T W β G S σ Rl r Q' := by
  cases r with
  | ok a ρ' => exact fun S1 H1 u e o q => f S1 H1 ρ' a u e o q (Post.mono h e)
  | err x ρ' => exact h
  | bad => exact h.elim
theorem Post.gv {ρ : Rho} {H : Hp} {d : D} {Q : VK} (h : Post K T W β G S σ (RpV K T σ) (.ok (.d d) ρ) Q) (o : Ok K T β G S σ ρ H) : Gv K T S H d Q :=
  fun S' H' v e r => h S' H' v e.s (o.ext e) r
end
/-- an expression, a test, arguments -/
abbrev rE (K : PySem.W.Frag) (T : Tb) (W : WX) (f : Rho → R VD) : TE := rG K T W (RpV K T) f
abbrev rT (K : PySem.W.Frag) (T : Tb) (W : WX) (f : Rho → R Bool) : TT := rG K T W (fun _ _ (b c : Bool) => b = c) f
def RpVs (K : PySem.W.Frag) (T : Tb) (σ : L2.St) (S : Hp) : List VD → List V → Prop
  | [], us => us = []
  | v :: vs, us => ∃ u r, us = u :: r ∧ RpV K T σ S v u ∧ RpVs K T σ S vs r
theorem RpVs.mono {K : PySem.W.Frag} {T : Tb} {σ : L2.St} {S S' : Hp} (e : Same S S') : ∀ {vs : List VD} {us : List V}, RpVs K T σ S vs us → RpVs K T σ S' vs us
  | [], _, h => h
  | _ :: _, _, ⟨u, r, e1, h, hs⟩ => ⟨u, r, e1, h.mono e, RpVs.mono e hs⟩
abbrev rA (K : PySem.W.Frag) (T : Tb) (W : WX) (f : Rho → R (List VD)) : TA := rG K T W (RpVs K T) f
def XE (X : Cx) (T : Tb) (W : WX) (e : Expr) (f : Rho → R VD) : Prop := PE X e (rE X.K T W f)
def XT (X : Cx) (T : Tb) (W : WX) (e : Expr) (f : Rho → R Bool) : Prop := PT X e (rT X.K T W f)
def XA (X : Cx) (T : Tb) (W : WX) (es : List Expr) (f : Rho → R (List VD)) : Prop := PA X es (rA X.K T W f)
theorem _root_.L2.PE.impQ {X : Cx} {e : Expr} {t t' : TE} (h : PE X e t) (i : ∀ σ H Q, t' σ H Q → t σ H Q) : PE X e t' := ⟨fun pins s σ H Q I w => h.run pins s σ H Q I (i σ H Q w)⟩
theorem _root_.L2.PT.impQ {X : Cx} {e : Expr} {t t' : TT} (h : PT X e t) (i : ∀ σ H Q, t' σ H Q → t σ H Q) : PT X e t' := ⟨fun pins s σ H Q I w => h.run pins s σ H Q I (i σ H Q w)⟩
theorem _root_.L2.PA.impQ {X : Cx} {e : List Expr} {t t' : TA} (h : PA X e t) (i : ∀ σ H Q, t' σ H Q → t σ H Q) : PA X e t' := ⟨fun pos pins s σ H Q I w => h.run pos pins s σ H Q I (i σ H Q w)⟩
theorem _root_.L2.PS.impQ {X : Cx} {e : Stmt} {t t' : TS} (h : PS X e t) (i : ∀ D σ H, t' D σ H → t D σ H) : PS X e t' := ⟨fun pins s σ H D I w => h.run pins s σ H D I (i D σ H w)⟩
theorem _root_.L2.PSs.impQ {X : Cx} {e : List Stmt} {t t' : TS} (h : PSs X e t) (i : ∀ D σ H, t' D σ H → t D σ H) : PSs X e t' := ⟨fun pins s σ H D I w => h.run pins s σ H D I (i D σ H w)⟩
end Lq
namespace Lq
open PySem PySem.Spec PyProof.Rows L2
def nameE (i : Nat) : Rho → R VD := fun ρ => match ρ[i]? with
  | some (.d x) => .ok (.d x) ρ
  | some (.m _) => .ok (.sl i) ρ
  | some (.b _) => .ok (.sl i) ρ
  | _ => .bad
def constE (d : D) : Rho → R VD := fun ρ => .ok (.d d) ρ
def lift1 (g : D → Option D) (v : VD) (ρ : Rho) : R VD := match res v ρ with
  | some x => (match g x with | some d => .ok (.d d) ρ | none => .bad)
  | none => .bad
def lift2 (g : D → D → Option D) (v w : VD) (ρ : Rho) : R VD := match res v ρ, res w ρ with
  | some x, some y => (match g x y with | some d => .ok (.d d) ρ | none => .bad)
  | _, _ => .bad
def op1E (g : D → Option D) (fa : Rho → R VD) : Rho → R VD := fun ρ => (fa ρ).bind fun v ρ1 => lift1 g v ρ1
def op2E (g : D → D → Option D) (fa fb : Rho → R VD) : Rho → R VD := fun ρ => (fa ρ).bind fun v ρ1 => (fb ρ1).bind fun w ρ2 => lift2 g v w ρ2
def resAll : List VD → Rho → Option (List D)
  | [], _ => some []
  | v :: vs, ρ => match res v ρ, resAll vs ρ with
    | some x, some xs => some (x :: xs)
    | _, _ => none
def liftN (g : List D → Option D) (vs : List VD) (ρ : Rho) : R VD := match resAll vs ρ with
  | some xs => (match g xs with | some d => .ok (.d d) ρ | none => .bad)
  | none => .bad
def opNE (g : List D → Option D) (fa : Rho → R (List VD)) : Rho → R VD := fun ρ => (fa ρ).bind fun vs ρ1 => liftN g vs ρ1
def RpHs (K : PySem.W.Frag) (T : Tb) (S H : Hp) : List D → List V → Prop
  | [], us => us = []
  | d :: ds, us => ∃ u r, us = u :: r ∧ RpH K T S H d u ∧ RpHs K T S H ds r
theorem Ok.resAll {K : PySem.W.Frag} {T : Tb} {β : Bt} {G S H : Hp} {σ : L2.St} {ρ : Rho} (o : Ok K T β G S σ ρ H) : ∀ {vs : List VD} {us : List V} {ds : List D}, RpVs K T σ S vs us → resAll vs ρ = some ds → RpHs K T S H ds us
  | [], us, ds, h, e => by
    simp only [Lq.resAll, Option.some.injEq] at e; subst e; exact h
  | v :: vs, us, ds, ⟨u, r, e1, h, hs⟩, e => by
    simp only [Lq.resAll] at e
    split at e
    · rename_i x xs q1 q2
      cases e
      exact ⟨u, r, e1, o.res h q1, Ok.resAll o hs q2⟩
    · cases e
def Prim1 (K : PySem.W.Frag) (T : Tb) (r : V → Hp → VK → Prop) (g : D → Option D) : Prop := ∀ S H x dx d Q, SameT T S H → RpH K T S H dx x → g dx = some d → Gv K T S H d Q → r x H Q
def Prim2 (K : PySem.W.Frag) (T : Tb) (r : R2) (g : D → D → Option D) : Prop := ∀ S H x y dx dy d Q, SameT T S H → RpH K T S H dx x → RpH K T S H dy y → g dx dy = some d → Gv K T S H d Q → r x y H Q
def PrimN (K : PySem.W.Frag) (T : Tb) (r : List V → Hp → VK → Prop) (g : List D → Option D) : Prop := ∀ S H xs ds d Q, SameT T S H → RpHs K T S H ds xs → g ds = some d → Gv K T S H d Q → r xs H Q
section
variable {K : PySem.W.Frag} {T : Tb} {W : WX} {β : Bt} {G S H : Hp} {σ : L2.St} {ρ : Rho} {Q : VK}
theorem Post.lift1 {g : D → Option D} {r : V → Hp → VK → Prop} {v : VD} {u : V} (hp : Prim1 K T r g) (o : Ok K T β G S σ ρ H) (h : RpV K T σ S v u) (p : Post K T W β G S σ (RpV K T σ) (lift1 g v ρ) Q) : r u H Q := by
  unfold Lq.lift1 at p
  split at p
  · rename_i x e
    split at p
    · rename_i d e2
      exact hp S H u x d Q o.sh (o.res h e) e2 (p.gv o)
    · exact p.elim
  · exact p.elim
theorem Post.lift2 {g : D → D → Option D} {r : R2} {v w : VD} {u z : V} (hp : Prim2 K T r g) (o : Ok K T β G S σ ρ H) (h : RpV K T σ S v u) (h2 : RpV K T σ S w z) (p : Post K T W β G S σ (RpV K T σ) (lift2 g v w ρ) Q) : r u z H Q := by
  unfold Lq.lift2 at p
  split at p
  · rename_i x y e e'
    split at p
    · rename_i d e2
      exact hp S H u z x y d Q o.sh (o.res h e) (o.res h2 e') e2 (p.gv o)
    · exact p.elim
  · exact p.elim
theorem Post.liftN {g : List D → Option D} {r : List V → Hp → VK → Prop} {vs : List VD} {us : List V} (hp : PrimN K T r g) (o : Ok K T β G S σ ρ H) (h : RpVs K T σ S vs us) (p : Post K T W β G S σ (RpV K T σ) (liftN g vs ρ) Q) : r us H Q := by
  unfold Lq.liftN at p
  split at p
  · rename_i xs e
    split at p
    · rename_i d e2
      exact hp S H us xs d Q o.sh (o.resAll h e) e2 (p.gv o)
    · exact p.elim
  · exact p.elim
theorem tOp_of {g : D → D → Option D} {r : R2} {fa fb : Rho → R VD} (hp : Prim2 K T r g) (h : rE K T W (op2E g fa fb) σ H Q) : tOp r (rE K T W fa) (rE K T W fb) σ H Q := by
  obtain ⟨β, G, S, ρ, o, p⟩ := h
  refine ⟨β, G, S, ρ, o, Post.thn (Rl := RpV K T σ) p fun S1 H1 ρ1 v u e1 o1 h1 p1 => ?_⟩
  refine ⟨β, G, S1, ρ1, o1, Post.thn (Rl := RpV K T σ) p1 fun S2 H2 ρ2 w z e2 o2 h2 p2 => ?_⟩
  exact Post.lift2 hp o2 (h1.mono e2) h2 p2
theorem tUn_of {g : D → Option D} {r : V → Hp → VK → Prop} {fa : Rho → R VD} (hp : Prim1 K T r g) (h : rE K T W (op1E g fa) σ H Q) : tUn r (rE K T W fa) σ H Q := by
  obtain ⟨β, G, S, ρ, o, p⟩ := h
  exact ⟨β, G, S, ρ, o, Post.thn (Rl := RpV K T σ) p fun S1 H1 ρ1 v u e1 o1 h1 p1 => Post.lift1 hp o1 h1 p1⟩
theorem tCB_of {g : List D → Option D} {r : List V → Hp → VK → Prop} {fa : Rho → R (List VD)} (hp : PrimN K T r g) (h : rE K T W (opNE g fa) σ H Q) : tCB r (rA K T W fa) σ H Q := by
  obtain ⟨β, G, S, ρ, o, p⟩ := h
  exact ⟨β, G, S, ρ, o, Post.thn (Rl := RpVs K T σ) p fun S1 H1 ρ1 v u e1 o1 h1 p1 => Post.liftN hp o1 h1 p1⟩
end
/-! ### expressions -/
section
variable {X : Cx} {T : Tb} {W : WX} {a b c e : Expr} {es : List Expr} {fa fb fc : Rho → R VD} {fs : Rho → R (List VD)} {ft fu : Rho → R Bool} {pos : Pos}
theorem xe_name (i : Nat) {x : Str} (hN : X.N[i]? = some x := by rfl) (hv : Vis X.env.scope x := by first | exact Or.inl rfl | exact Or.inr (Or.inl rfl) | exact Or.inr (Or.inr rfl)) (hd : (x == ("__debug__" : Str)) = false := by decide)
    (hcd : (x == ("__classdict__" : Str)) = false := by decide) : XE X T W (.Name x pos) (nameE i) := by
  refine (pe_var hN hv hd hcd).impQ fun σ H Q h => ?_
  obtain ⟨β, G, S, ρ, o, p⟩ := h
  unfold nameE at p
  split at p
  · rename_i x q
    obtain ⟨u, e1, r⟩ := o.cel i _ q
    exact ⟨u, e1, p S H u (Same.refl _) o r⟩
  · rename_i x q
    obtain ⟨a, vs, e1, _⟩ := o.cel i _ q
    exact ⟨.ref a, e1, p S H (.ref a) (Same.refl _) o e1⟩
  · rename_i x q
    obtain ⟨a, e1, _⟩ := o.cel i _ q
    exact ⟨.ref a, e1, p S H (.ref a) (Same.refl _) o e1⟩
  · exact p.elim
theorem const_of {K : PySem.W.Frag} {d : D} {v : V} {σ : L2.St} {H : Hp} {Q : VK} (hr : ∀ S, Rp K T S d v) (h : rE K T W (constE d) σ H Q) : Q v H := by
  obtain ⟨β, G, S, ρ, o, p⟩ := h
  exact p S H v (Same.refl _) o (hr S)
theorem xe_int {i : Int} {j : Nat} : XE X T W (.Constant (.int i) j pos) (constE (.int i)) := pe_int.impQ fun _ _ _ h => const_of (K := X.K) (d := .int i) (fun _ => rfl) h
theorem xe_bl {i : Bool} {j : Nat} : XE X T W (.Constant (.bool i) j pos) (constE (.bl i)) := pe_bl.impQ fun _ _ _ h => const_of (K := X.K) (d := .bl i) (fun _ => rfl) h
theorem xe_str {i : Str} {j : Nat} : XE X T W (.Constant (.str i) j pos) (constE (.str i)) := pe_str.impQ fun _ _ _ h => const_of (K := X.K) (d := .str i) (fun _ => rfl) h
theorem xe_non {j : Nat} : XE X T W (.Constant .none j pos) (constE .non) := pe_non.impQ fun _ _ _ h => const_of (K := X.K) (d := .non) (fun _ => rfl) h
/-- a constant of the module -/
theorem xe_glob {x : Str} {d : D} {v : V} {u : Value} (hg : Gl X x) (hm : X.mg x = some u) (r : RelV v u) (hr : ∀ S, Rp X.K T S d v) (hd : (x == ("__debug__" : Str)) = false := by decide) : XE X T W (.Name x pos) (constE d) :=
  (pe_glob hg hm r hd).impQ fun _ _ _ h => const_of hr h
theorem xe_op {op : Operator} {r : R2} {g : D → D → Option D} (ho : OpR X (binaryOp op) r) (hp : Prim2 X.K T r g) (ha : XE X T W a fa) (hb : XE X T W b fb) : XE X T W (.BinOp a op b pos) (op2E g fa fb) :=
  (pe_op ho ha hb).impQ fun _ _ _ h => tOp_of hp h
theorem xe_cmp {op : CmpOp} {r : R2} {g : D → D → Option D} (ho : OpR X (compareOp op) r) (hp : Prim2 X.K T r g) (ha : XE X T W a fa) (hb : XE X T W b fb) (hm : behindInMarks op b = false := by first | exact nomark _ | rfl) : XE X T W (.Compare a [op] [b] pos) (op2E g fa fb) :=
  (pe_cmpR ho ha hb hm).impQ fun _ _ _ h => tOp_of hp h
theorem xe_un {op : UnaryOp} {r : V → Hp → VK → Prop} {g : D → Option D} (ho : UnR X (unaryOp op) r) (hp : Prim1 X.K T r g) (ha : XE X T W a fa) : XE X T W (.UnaryOp op a pos) (op1E g fa) :=
  (pe_un ho ha).impQ fun _ _ _ h => tUn_of hp h
theorem xe_ix {r : R2} {g : D → D → Option D} (ho : IxR X r) (hp : Prim2 X.K T r g) (ha : XE X T W a fa) (hb : XE X T W b fb) (hs : PlainIx b := by exact fun _ _ => rfl) : XE X T W (.Subscript a b pos) (op2E g fa fb) :=
  (pe_ix ho ha hb hs).impQ fun _ _ _ h => tOp_of hp h
/-! ### tests -/
def valT (fa : Rho → R VD) : Rho → R Bool := fun ρ => (fa ρ).bind fun v ρ1 => match v with | .d (.bl k) => .ok k ρ1 | _ => .bad
theorem valT_of {K : PySem.W.Frag} {t : TE} {σ : L2.St} {H : Hp} {Q : Bool → Hp → Prop} (ht : ∀ Q', rE K T W fa σ H Q' → t σ H Q') (h : rT K T W (valT fa) σ H Q) : t σ H fun x H1 => ∃ k, x = .bl k ∧ Q k H1 := by
  obtain ⟨β, G, S, ρ, o, p⟩ := h
  refine ht _ ⟨β, G, S, ρ, o, Post.thn (Rl := RpV K T σ) p fun S1 H1 ρ1 v u e1 o1 h1 p1 => ?_⟩
  split at p1
  · rename_i k
    exact ⟨k, h1, p1 S1 H1 k (Same.refl _) o1 rfl⟩
  · exact p1.elim
theorem xt_cmp {op : CmpOp} {r : R2} {g : D → D → Option D} (ho : OpR X (compareOp op) r) (hp : Prim2 X.K T r g) (ha : XE X T W a fa) (hb : XE X T W b fb) (hm : behindInMarks op b = false := by first | exact nomark _ | rfl) : XT X T W (.Compare a [op] [b] pos) (valT (op2E g fa fb)) :=
  (pt_cmpR ho ha hb hm).impQ fun σ H Q h => valT_of (t := tOp r (rE X.K T W fa) (rE X.K T W fb)) (fun _ q => tOp_of hp q) h
theorem xt_val (he : XE X T W e fa) (hw : ∀ whole, isTrue e X.env whole = (do let v ← whole; standAt e.pos; holding [v] (truthy v)) := by intro _; rfl) : XT X T W e (valT fa) :=
  (pt_val he hw).impQ fun σ H Q h => valT_of (t := rE X.K T W fa) (fun _ q => q) h
def notT (ft : Rho → R Bool) : Rho → R Bool := fun ρ => (ft ρ).bind fun k ρ1 => .ok (!k) ρ1
def andT (ft fu : Rho → R Bool) : Rho → R Bool := fun ρ => (ft ρ).bind fun k ρ1 => if k then fu ρ1 else .ok false ρ1
def orT (ft fu : Rho → R Bool) : Rho → R Bool := fun ρ => (ft ρ).bind fun k ρ1 => if k then .ok true ρ1 else fu ρ1
theorem xt_not (h : XT X T W a ft) : XT X T W (.UnaryOp .Not a pos) (notT ft) := (pt_not h).impQ fun σ H Q h => by
  obtain ⟨β, G, S, ρ, o, p⟩ := h
  exact ⟨β, G, S, ρ, o, Post.thn (Rl := fun _ (b c : Bool) => b = c) p fun S1 H1 ρ1 v u e1 o1 h1 p1 => by subst h1; exact p1 S1 H1 _ (Same.refl _) o1 rfl⟩
def XW (X : Cx) (T : Tb) (W : WX) (e : Expr) (f : Rho → R Bool) : Prop := PW X e (rT X.K T W f)
theorem _root_.L2.PW.impQ {X : Cx} {e : Expr} {t t' : TT} (h : PW X e t) (i : ∀ σ H Q, t' σ H Q → t σ H Q) : PW X e t' := ⟨fun wh pins s σ H Q I w => h.run wh pins s σ H Q I (i σ H Q w)⟩
theorem XW.xt (h : XW X T W e ft) : XT X T W e ft := L2.PW.pt h
theorem xw_and1 (h : XT X T W a ft) : XW X T W (.BoolOp .And [a] pos) ft := pw_and1 h
theorem xw_or1 (h : XT X T W a ft) : XW X T W (.BoolOp .Or [a] pos) ft := pw_or1 h
theorem xw_and (h : XT X T W a ft) (h2 : XW X T W (.BoolOp .And (b :: es) pos) fu) : XW X T W (.BoolOp .And (a :: b :: es) pos) (andT ft fu) := (pw_and h h2).impQ fun σ H Q h => by
  obtain ⟨β, G, S, ρ, o, p⟩ := h
  refine ⟨β, G, S, ρ, o, Post.thn (Rl := fun _ (b c : Bool) => b = c) p fun S1 H1 ρ1 v u e1 o1 h1 p1 => ?_⟩
  subst h1
  cases v with
  | true => exact iteT ⟨β, G, S1, ρ1, o1, p1⟩
  | false => exact iteF (p1 S1 H1 _ (Same.refl _) o1 rfl)
theorem xw_or (h : XT X T W a ft) (h2 : XW X T W (.BoolOp .Or (b :: es) pos) fu) : XW X T W (.BoolOp .Or (a :: b :: es) pos) (orT ft fu) := (pw_or h h2).impQ fun σ H Q h => by
  obtain ⟨β, G, S, ρ, o, p⟩ := h
  refine ⟨β, G, S, ρ, o, Post.thn (Rl := fun _ (b c : Bool) => b = c) p fun S1 H1 ρ1 v u e1 o1 h1 p1 => ?_⟩
  subst h1
  cases v with
  | true => exact iteT (p1 S1 H1 _ (Same.refl _) o1 rfl)
  | false => exact iteF ⟨β, G, S1, ρ1, o1, p1⟩
/-- .. as values: the left one a truth value -/
def andE (fa fb : Rho → R VD) : Rho → R VD := fun ρ => (fa ρ).bind fun v ρ1 => match v with | .d (.bl true) => fb ρ1 | .d (.bl false) => .ok (.d (.bl false)) ρ1 | _ => .bad
def orE (fa fb : Rho → R VD) : Rho → R VD := fun ρ => (fa ρ).bind fun v ρ1 => match v with | .d (.bl true) => .ok (.d (.bl true)) ρ1 | .d (.bl false) => fb ρ1 | _ => .bad
def notE (fa : Rho → R VD) : Rho → R VD := fun ρ => (fa ρ).bind fun v ρ1 => match v with | .d (.bl k) => .ok (.d (.bl (!k))) ρ1 | _ => .bad
theorem xe_one {op : BoolOp} (h : XE X T W a fa) : XE X T W (.BoolOp op [a] pos) fa := pe_one h
theorem xe_and (h : XE X T W a fa) (h2 : XE X T W (.BoolOp .And (b :: es) pos) fb) : XE X T W (.BoolOp .And (a :: b :: es) pos) (andE fa fb) := (pe_and h h2).impQ fun σ H Q h => by
  obtain ⟨β, G, S, ρ, o, p⟩ := h
  refine ⟨β, G, S, ρ, o, Post.thn (Rl := RpV X.K T σ) p fun S1 H1 ρ1 v u e1 o1 h1 p1 => ?_⟩
  split at p1
  · exact ⟨true, h1, iteT ⟨β, G, S1, ρ1, o1, p1⟩⟩
  · exact ⟨false, h1, iteF (p1 S1 H1 (.bl false) (Same.refl _) o1 rfl)⟩
  · exact p1.elim
theorem xe_not (h : XE X T W a fa) : XE X T W (.UnaryOp .Not a pos) (notE fa) := (pe_not h).impQ fun σ H Q h => by
  obtain ⟨β, G, S, ρ, o, p⟩ := h
  refine ⟨β, G, S, ρ, o, Post.thn (Rl := RpV X.K T σ) p fun S1 H1 ρ1 v u e1 o1 h1 p1 => ?_⟩
  split at p1
  · rename_i k
    exact ⟨k, h1, p1 S1 H1 (.bl (!k)) (Same.refl _) o1 rfl⟩
  · exact p1.elim
def ifE (ft : Rho → R Bool) (fa fb : Rho → R VD) : Rho → R VD := fun ρ => (ft ρ).bind fun k ρ1 => if k then fa ρ1 else fb ρ1
theorem xe_if (hc : XT X T W c ft) (ha : XE X T W a fa) (hb : XE X T W b fb) : XE X T W (.IfExp c a b pos) (ifE ft fa fb) := (pe_ifExp hc ha hb).impQ fun σ H Q h => by
  obtain ⟨β, G, S, ρ, o, p⟩ := h
  refine ⟨β, G, S, ρ, o, Post.thn (Rl := fun _ (b c : Bool) => b = c) p fun S1 H1 ρ1 v u e1 o1 h1 p1 => ?_⟩
  subst h1
  cases v with
  | true => exact iteT ⟨β, G, S1, ρ1, o1, p1⟩
  | false => exact iteF ⟨β, G, S1, ρ1, o1, p1⟩
/-! ### arguments -/
def nilA : Rho → R (List VD) := fun ρ => .ok [] ρ
def consA (fa : Rho → R VD) (fs : Rho → R (List VD)) : Rho → R (List VD) := fun ρ => (fa ρ).bind fun v ρ1 => (fs ρ1).bind fun vs ρ2 => .ok (v :: vs) ρ2
theorem xa_nil : XA X T W [] nilA := pa_nil.impQ fun σ H Q h => by
  obtain ⟨β, G, S, ρ, o, p⟩ := h
  exact p S H [] (Same.refl _) o rfl
theorem xa_cons (ha : XE X T W e fa) (hs : XA X T W es fs) (hst : starEach (e :: es) X.env = (false, eval e X.env) :: starEach es X.env := by rfl) : XA X T W (e :: es) (consA fa fs) := (pa_cons ha hs hst).impQ fun σ H Q h => by
  obtain ⟨β, G, S, ρ, o, p⟩ := h
  refine ⟨β, G, S, ρ, o, Post.thn (Rl := RpV X.K T σ) p fun S1 H1 ρ1 v u e1 o1 h1 p1 => ?_⟩
  refine ⟨β, G, S1, ρ1, o1, Post.thn (Rl := RpVs X.K T σ) p1 fun S2 H2 ρ2 vs us e2 o2 h2 p2 => ?_⟩
  exact p2 S2 H2 _ (Same.refl _) o2 ⟨u, us, rfl, h1.mono e2, h2⟩
/-- a built-in by its name, a built-in class -/
theorem xe_callB {id : String} {r : List V → Hp → VK → Prop} {g : List D → Option D} {x : Str} {p : Pos} (hc : CallR X (.builtin id) r) (hp : PrimN X.K T r g) (hm : X.mg x = none) (hv : bootBuiltins x = some (.builtin id)) (ha : XA X T W (e :: es) fs) (hg : Gl X x := by rfl) (hn : x ≠ "__name__" := by decide) (hdb : (x == ("__debug__" : Str)) = false := by decide)
    (he : starEach (e :: es) X.env = (false, eval e X.env) :: starEach es X.env := by rfl) (hpl : (backTo pos (starEach es X.env)).any (·.1) = false := by rfl) : XE X T W (.Call (.Name x p) (e :: es) [] pos) (opNE g fs) :=
  (pe_callB hc hg hm hv ha hn hdb he hpl).impQ fun _ _ _ h => tCB_of hp h
theorem xe_callTy {id : String} {r : List V → Hp → VK → Prop} {g : List D → Option D} {x : Str} {p : Pos} (hc : CallR X (.type id) r) (hp : PrimN X.K T r g) (hm : X.mg x = none) (hv : bootBuiltins x = some (.type id)) (ha : XA X T W (e :: es) fs) (hg : Gl X x := by rfl) (hn : x ≠ "__name__" := by decide) (hdb : (x == ("__debug__" : Str)) = false := by decide)
    (he : starEach (e :: es) X.env = (false, eval e X.env) :: starEach es X.env := by rfl) (hpl : (backTo pos (starEach es X.env)).any (·.1) = false := by rfl) : XE X T W (.Call (.Name x p) (e :: es) [] pos) (opNE g fs) :=
  (pe_callTy hc hg hm hv ha hn hdb he hpl).impQ fun _ _ _ h => tCB_of hp h
end
end Lq
namespace Lq
open PySem PySem.Spec PyProof.Rows L2
section
variable {K : PySem.W.Frag} {T : Tb} {W : WX} {β : Bt} {G S S' H : Hp} {σ : L2.St} {ρ : Rho}
/-- nobody has p -/
structure Fre (β : Bt) (G S : Hp) (σ : L2.St) (ρ : Rho) (p : Addr) : Prop where
  s : S p = none
  g : G p = none
  b : β ≠ .bx p
  sl : ∀ (i : Nat) (xs : List D), ρ[i]? = some (.m xs) → σ[i]? ≠ some (some (.ref p))
  sk : ∀ (i : Nat) (l : List (Key × D)), ρ[i]? = some (.k l) → σ[i]? ≠ some (some (.ref p))
  skt : ∀ (i : Nat) (l : List (List Key × D)), ρ[i]? = some (.kt l) → σ[i]? ≠ some (some (.ref p))
theorem Ok.fre (o : Ok K T β G S σ ρ H) {p : Addr} (h : H p = none) : Fre β G S σ ρ p where
  s := o.sh.free h
  g := o.gh.free h
  b := fun e => by obtain ⟨ns, q, _⟩ := o.bx p e; rw [h] at q; cases q
  sl := fun i xs e q => by
    obtain ⟨a, vs, e1, e2, _⟩ := o.cel i _ e
    rw [e1] at q; cases q; rw [h] at e2; cases e2
  sk := fun i l e q => by
    obtain ⟨a, kvs, e1, e2, _⟩ := o.cel i _ e
    rw [e1] at q; cases q; rw [h] at e2; cases e2
  skt := fun i l e q => by
    obtain ⟨a, kvs, e1, e2, _⟩ := o.cel i _ e
    rw [e1] at q; cases q; rw [h] at e2; cases e2
theorem Fre.ext {H' : Hp} {p : Addr} (f : Fre β G S σ ρ p) (e : S' p = none) : Fre β G S' σ ρ p := ⟨e, f.g, f.b, f.sl, f.sk, f.skt⟩
theorem Ok.freeze (o : Ok K T β G S σ ρ H) {p : Addr} {us : List V} (f : Fre β G S σ ρ p) (h : H p = some (.lst us)) : Ok K T β G (upd S p (.lst us)) σ ρ H where
  sh := o.sh.new1 h
  gh := o.gh
  gs := fun b v q n => by rw [upd_ne (ne_of_none q f.g)]; exact o.gs b v q n
  gb := fun b q => ⟨(o.gb b q).1, by have hb : b ≠ p := fun z => f.b (by rw [q, z]); rw [upd_ne hb]; exact (o.gb b q).2⟩
  bx := o.bx
  len := o.len
  cel := fun i c q => by
    have h1 := o.cel i c q
    cases c with
    | no => trivial
    | d x => obtain ⟨v, e1, r⟩ := h1; exact ⟨v, e1, Rp.mono (same_new f.s) _ _ r⟩
    | m xs =>
      obtain ⟨a, vs, e1, e2, e3, e4, e5, r⟩ := h1
      refine ⟨a, vs, e1, e2, ?_, e4, e5, Rps.mono (same_new f.s) _ _ r⟩
      rw [upd_ne (fun z => f.sl i xs q (by rw [e1, z]))]; exact e3
    | k l =>
      obtain ⟨a, kvs, e1, e2, e3, e4, e5, ek, r⟩ := h1
      exact ⟨a, kvs, e1, e2, by rw [upd_ne (fun z => by rw [z, h] at e2; cases e2)]; exact e3, e4, e5, ek, Rps.mono (same_new f.s) _ _ r⟩
    | kt l =>
      obtain ⟨a, kvs, e1, e2, e3, e4, e5, ek, r⟩ := h1
      exact ⟨a, kvs, e1, e2, by rw [upd_ne (fun z => by rw [z, h] at e2; cases e2)]; exact e3, e4, e5, ek, Rps.mono (same_new f.s) _ _ r⟩
    | b ns => exact h1
    | z => first | exact h1 | exact h | (obtain ⟨_, _, _, e2⟩ := h1; cases e2) | cases hpi | cases hk' | cases pl
    | s t =>
      obtain ⟨a, dx, e1, e2, e3, e4, e5, e6, e7, e8⟩ := h1
      exact ⟨a, dx, e1, e2, e3, e4, by rw [upd_ne (fun z => by rw [z, h] at e4; cases e4)]; exact e5, e6, by rw [upd_ne (fun z => by rw [z, h] at e3; cases e3)]; exact e7, e8⟩
  dis := o.dis
theorem get_set_eq {α : Type} {l : List α} {i : Nat} {x y : α} (h : (l.set i x)[i]? = some y) : y = x := by
  by_cases hi : i < l.length
  · rw [List.getElem?_set_self hi] at h; exact (Option.some.inj h).symm
  · rw [List.getElem?_eq_none (by simpa using hi)] at h; cases h
theorem Ok.lt (o : Ok K T β G S σ ρ H) {i : Nat} {c : Cell} (h : ρ[i]? = some c) : i < σ.length := by
  rw [o.len]; exact (List.getElem?_eq_some_iff.mp h).1
theorem Ok.setD (o : Ok K T β G S σ ρ H) {i : Nat} {x : D} {v : V} (r : Rp K T S x v) : Ok K T β G S (σ.set i (some v)) (ρ.set i (.d x)) H where
  sh := o.sh
  gh := o.gh
  gs := o.gs
  gb := o.gb
  bx := o.bx
  len := by rw [List.length_set, List.length_set]; exact o.len
  cel := fun j c q => by
    by_cases hj : j = i
    · subst hj
      have hl : j < ρ.length := by have := (List.getElem?_eq_some_iff.mp q).1; rwa [List.length_set] at this
      have e := get_set_eq q
      subst e
      exact ⟨v, List.getElem?_set_self (by rw [o.len]; exact hl), r⟩
    · rw [List.getElem?_set_ne (Ne.symm hj)] at q ⊢
      exact o.cel j c q
  dis := fun j k xs ys q1 q2 e => by
    have h1 : j ≠ i := fun z => by subst z; cases get_set_eq q1
    have h2 : k ≠ i := fun z => by subst z; cases get_set_eq q2
    rw [List.getElem?_set_ne (Ne.symm h1)] at q1 e
    rw [List.getElem?_set_ne (Ne.symm h2)] at q2 e
    exact o.dis j k xs ys q1 q2 e
theorem Ok.setN (o : Ok K T β G S σ ρ H) {i : Nat} {v : Option V} : Ok K T β G S (σ.set i v) (ρ.set i .no) H where
  sh := o.sh
  gh := o.gh
  gs := o.gs
  gb := o.gb
  bx := o.bx
  len := by rw [List.length_set, List.length_set]; exact o.len
  cel := fun j c q => by
    by_cases hj : j = i
    · subst hj
      have e := get_set_eq q
      subst e
      trivial
    · rw [List.getElem?_set_ne (Ne.symm hj)] at q ⊢
      exact o.cel j c q
  dis := fun j k xs ys q1 q2 e => by
    have h1 : j ≠ i := fun z => by subst z; cases get_set_eq q1
    have h2 : k ≠ i := fun z => by subst z; cases get_set_eq q2
    rw [List.getElem?_set_ne (Ne.symm h1)] at q1 e
    rw [List.getElem?_set_ne (Ne.symm h2)] at q2 e
    exact o.dis j k xs ys q1 q2 e
theorem Ok.setM (o : Ok K T β G S σ ρ H) {i : Nat} {p : Addr} {xs : List D} {vs : List V} (f : Fre β G S σ ρ p) (h : H p = some (.lst vs)) (r : Rps K T S xs vs) : Ok K T β G S (σ.set i (some (.ref p))) (ρ.set i (.m xs)) H where
  sh := o.sh
  gh := o.gh
  gs := o.gs
  gb := o.gb
  bx := o.bx
  len := by rw [List.length_set, List.length_set]; exact o.len
  cel := fun j c q => by
    by_cases hj : j = i
    · subst hj
      have hl : j < ρ.length := by have := (List.getElem?_eq_some_iff.mp q).1; rwa [List.length_set] at this
      have e := get_set_eq q
      subst e
      exact ⟨p, vs, List.getElem?_set_self (by rw [o.len]; exact hl), h, f.s, f.g, f.b, r⟩
    · rw [List.getElem?_set_ne (Ne.symm hj)] at q ⊢
      exact o.cel j c q
  dis := fun j k ys zs q1 q2 e => by
    by_cases h1 : j = i
    · by_cases h2 : k = i
      · rw [h1, h2]
      · exfalso
        subst h1
        have hl : j < σ.length := by have := (List.getElem?_eq_some_iff.mp q1).1; rw [List.length_set] at this; rw [o.len]; exact this
        rw [List.getElem?_set_ne (Ne.symm h2)] at q2 e
        rw [List.getElem?_set_self hl] at e
        exact f.sl k zs q2 e.symm
    · by_cases h2 : k = i
      · exfalso
        subst h2
        have hl : k < σ.length := by have := (List.getElem?_eq_some_iff.mp q2).1; rw [List.length_set] at this; rw [o.len]; exact this
        rw [List.getElem?_set_ne (Ne.symm h1)] at q1 e
        rw [List.getElem?_set_self hl] at e
        exact f.sl j ys q1 e
      · rw [List.getElem?_set_ne (Ne.symm h1)] at q1 e
        rw [List.getElem?_set_ne (Ne.symm h2)] at q2 e
        exact o.dis j k ys zs q1 q2 e
/-! ### a new list -/
def PostF (K : PySem.W.Frag) (T : Tb) (W : WX) (β : Bt) (G S : Hp) (σ : L2.St) (r : R (List D)) (Q : VK) : Prop := match r with
  | .ok ds ρ' => ∀ S' H' p vs, Same S S' → Ok K T β G S' σ ρ' H' → Fre β G S' σ ρ' p → H' p = some (.lst vs) → Rps K T S' ds vs → Q (.ref p) H'
  | .err x ρ' => ∀ S' H' c d, Same S S' → Ok K T β G S' σ ρ' H' → XR K T S' x c d → W c d σ H'
  | .bad => False
def rF (K : PySem.W.Frag) (T : Tb) (W : WX) (f : Rho → R (List D)) : TE := fun σ H Q => ∃ β G S ρ, Ok K T β G S σ ρ H ∧ PostF K T W β G S σ (f ρ) Q
def XF (X : Cx) (T : Tb) (W : WX) (e : Expr) (f : Rho → R (List D)) : Prop := PE X e (rF X.K T W f)
theorem PostF.mono {r : R (List D)} {Q : VK} (h : PostF K T W β G S σ r Q) (e : Same S S') : PostF K T W β G S' σ r Q := by
  cases r with
  | ok a ρ' => exact fun S2 H2 p vs e2 o => h S2 H2 p vs (e.trans e2) o
  | err x ρ' => exact fun S2 H2 c d e2 o => h S2 H2 c d (e.trans e2) o
  | bad => exact h
theorem PostF.thn {α γ : Type} {Rl : Hp → α → γ → Prop} {r : R α} {k : α → Rho → R (List D)} {Q : VK} {Q' : γ → Hp → Prop} (h : PostF K T W β G S σ (r.bind k) Q)
    (f : ∀ S1 H1 ρ1 a u, Same S S1 → Ok K T β G S1 σ ρ1 H1 → Rl S1 a u → PostF K T W β G S1 σ (k a ρ1) Q → Q' u H1) : Post K T W β G S σ Rl r Q' := by
  cases r with
  | ok a ρ' => exact fun S1 H1 u e o q => f S1 H1 ρ' a u e o q (PostF.mono h e)
  | err x ρ' => exact h
  | bad => exact h.elim
theorem PostF.gf {ds : List D} {Q : VK} (h : PostF K T W β G S σ (.ok ds ρ) Q) (o : Ok K T β G S σ ρ H) : Gf K T S H ds Q :=
  fun S' H' p vs e hp sp hv r => h S' H' p vs e.s (o.ext e) ((o.fre hp).ext (H' := H') sp) hv r
def frzE (f : Rho → R (List D)) : Rho → R VD := fun ρ => (f ρ).bind fun ds ρ1 => .ok (.d (.lst ds)) ρ1
theorem XF.xe {X : Cx} {e : Expr} {f : Rho → R (List D)} (h : XF X T W e f) : XE X T W e (frzE f) := L2.PE.impQ h fun σ H Q h => by
  obtain ⟨β, G, S, ρ, o, p⟩ := h
  refine ⟨β, G, S, ρ, o, ?_⟩
  unfold frzE at p
  revert p
  cases f ρ with
  | ok ds ρ1 => exact fun p S' H' q vs e o' fr hv r => p (upd S' q (.lst vs)) H' (.ref q) (e.trans (same_new fr.s)) (o'.freeze fr hv) ⟨q, vs, rfl, upd_same, Rps.mono (same_new fr.s) _ _ r⟩
  | err x ρ1 => exact fun p => p
  | bad => exact fun p => p
/-- data of all the values: no slot's own list among them -/
def datAll : List VD → Option (List D)
  | [] => some []
  | .d x :: vs => (match datAll vs with | some xs => some (x :: xs) | none => none)
  | .sl _ :: _ => none
theorem datAll_rps : ∀ {vs : List VD} {us : List V} {ds : List D}, datAll vs = some ds → RpVs K T σ S vs us → Rps K T S ds us
  | [], _, _, e, h => by simp only [datAll, Option.some.injEq] at e; subst e; exact h
  | .d x :: vs, _, _, e, ⟨u, r, e1, h, hs⟩ => by
    simp only [datAll] at e
    split at e
    · rename_i xs q; cases e; exact ⟨u, r, e1, h, datAll_rps q hs⟩
    · cases e
  | .sl _ :: _, _, _, e, _ => by simp only [datAll] at e; cases e
def fits (n : Nat) : Bool := decide (n ≤ 1000000)
theorem fits_line {n : Nat} (h : fits n = true) : n ≤ sizeLine := Nat.le_trans (of_decide_eq_true h) (by rw [sizeLine_eq]; decide)
def lstF (fs : Rho → R (List VD)) : Rho → R (List D) := fun ρ => (fs ρ).bind fun vs ρ1 => match datAll vs with | some ds => if fits ds.length then .ok ds ρ1 else .bad | none => .bad
def tupE (fs : Rho → R (List VD)) : Rho → R VD := fun ρ => (fs ρ).bind fun vs ρ1 => match datAll vs with | some ds => if fits ds.length then .ok (.d (.tup ds)) ρ1 else .bad | none => .bad
theorem xf_lst {X : Cx} {es : List Expr} {pos : Pos} {fs : Rho → R (List VD)} (h : XA X T W es fs) : XF X T W (.List es pos) (lstF fs) := (pe_lst h).impQ fun σ H Q h => by
  obtain ⟨β, G, S, ρ, o, p⟩ := h
  refine ⟨β, G, S, ρ, o, PostF.thn (Rl := RpVs X.K T σ) p fun S1 H1 ρ1 vs us e1 o1 h1 p1 => ?_⟩
  split at p1
  · rename_i ds q
    split at p1
    · rename_i hf
      have r := datAll_rps q h1
      exact ⟨by rw [r.len]; exact fits_line hf, fun a ha => (p1.gf o1).new o1.sh r a ha⟩
    · exact p1.elim
  · exact p1.elim
theorem xe_tup {X : Cx} {es : List Expr} {pos : Pos} {k : Nat} {fs : Rho → R (List VD)} (h : XA X T W es fs) : XE X T W (.Tuple es k pos) (tupE fs) := (pe_tup h).impQ fun σ H Q h => by
  obtain ⟨β, G, S, ρ, o, p⟩ := h
  refine ⟨β, G, S, ρ, o, Post.thn (Rl := RpVs X.K T σ) p fun S1 H1 ρ1 vs us e1 o1 h1 p1 => ?_⟩
  split at p1
  · rename_i ds q
    split at p1
    · rename_i hf
      have r := datAll_rps q h1
      exact ⟨by rw [r.len]; exact fits_line hf, fun a ha => (p1.gv o1).newT o1.sh r a ha⟩
    · exact p1.elim
  · exact p1.elim
/-- operations that make a new list -/
def PrimNF (K : PySem.W.Frag) (T : Tb) (r : List V → Hp → VK → Prop) (g : List D → Option (List D)) : Prop := ∀ S H xs ds d Q, SameT T S H → RpHs K T S H ds xs → g ds = some d → Gf K T S H d Q → r xs H Q
def Prim2F (K : PySem.W.Frag) (T : Tb) (r : R2) (g : D → D → Option (List D)) : Prop := ∀ S H x y dx dy d Q, SameT T S H → RpH K T S H dx x → RpH K T S H dy y → g dx dy = some d → Gf K T S H d Q → r x y H Q
def opNF (g : List D → Option (List D)) (fs : Rho → R (List VD)) : Rho → R (List D) := fun ρ => (fs ρ).bind fun vs ρ1 => match resAll vs ρ1 with | some xs => (match g xs with | some d => .ok d ρ1 | none => .bad) | none => .bad
def op2F (g : D → D → Option (List D)) (fa fb : Rho → R VD) : Rho → R (List D) := fun ρ => (fa ρ).bind fun v ρ1 => (fb ρ1).bind fun w ρ2 => match res v ρ2, res w ρ2 with | some x, some y => (match g x y with | some d => .ok d ρ2 | none => .bad) | _, _ => .bad
theorem tCBF_of {g : List D → Option (List D)} {r : List V → Hp → VK → Prop} {fa : Rho → R (List VD)} {Q : VK} (hp : PrimNF K T r g) (h : rF K T W (opNF g fa) σ H Q) : tCB r (rA K T W fa) σ H Q := by
  obtain ⟨β, G, S, ρ, o, p⟩ := h
  refine ⟨β, G, S, ρ, o, PostF.thn (Rl := RpVs K T σ) p fun S1 H1 ρ1 v u e1 o1 h1 p1 => ?_⟩
  split at p1
  · rename_i xs e
    split at p1
    · rename_i d e2
      exact hp S1 H1 u xs d Q o1.sh (o1.resAll h1 e) e2 (p1.gf o1)
    · exact p1.elim
  · exact p1.elim
theorem tOpF_of {g : D → D → Option (List D)} {r : R2} {fa fb : Rho → R VD} {Q : VK} (hp : Prim2F K T r g) (h : rF K T W (op2F g fa fb) σ H Q) : tOp r (rE K T W fa) (rE K T W fb) σ H Q := by
  obtain ⟨β, G, S, ρ, o, p⟩ := h
  refine ⟨β, G, S, ρ, o, PostF.thn (Rl := RpV K T σ) p fun S1 H1 ρ1 v u e1 o1 h1 p1 => ?_⟩
  refine ⟨β, G, S1, ρ1, o1, PostF.thn (Rl := RpV K T σ) p1 fun S2 H2 ρ2 w z e2 o2 h2 p2 => ?_⟩
  split at p2
  · rename_i x y q q'
    split at p2
    · rename_i d e2'
      exact hp S2 H2 u z x y d Q o2.sh (o2.res (h1.mono e2) q) (o2.res h2 q') e2' (p2.gf o2)
    · exact p2.elim
  · exact p2.elim
end
section
variable {X : Cx} {T : Tb} {W : WX} {a b c e : Expr} {es : List Expr} {fa fb fc : Rho → R VD} {fs : Rho → R (List VD)} {ft fu : Rho → R Bool} {pos : Pos}
theorem xf_callTy {id : String} {r : List V → Hp → VK → Prop} {g : List D → Option (List D)} {x : Str} {p : Pos} (hc : CallR X (.type id) r) (hp : PrimNF X.K T r g) (hm : X.mg x = none) (hv : bootBuiltins x = some (.type id)) (ha : XA X T W (e :: es) fs) (hg : L2.Gl X x := by rfl) (hn : x ≠ "__name__" := by decide) (hdb : (x == ("__debug__" : Str)) = false := by decide)
    (he : starEach (e :: es) X.env = (false, eval e X.env) :: starEach es X.env := by rfl) (hpl : (backTo pos (starEach es X.env)).any (·.1) = false := by rfl) : XF X T W (.Call (.Name x p) (e :: es) [] pos) (opNF g fs) :=
  (pe_callTy hc hg hm hv ha hn hdb he hpl).impQ fun _ _ _ h => tCBF_of hp h
theorem xf_op {op : Operator} {r : R2} {g : D → D → Option (List D)} (ho : OpR X (binaryOp op) r) (hp : Prim2F X.K T r g) (ha : XE X T W a fa) (hb : XE X T W b fb) : XF X T W (.BinOp a op b pos) (op2F g fa fb) :=
  (pe_op ho ha hb).impQ fun _ _ _ h => tOpF_of hp h
end
end Lq
namespace Lq
open PySem PySem.Spec PyProof.Rows L2
/-! ### statements -/
inductive O where
  | nx (r : Rho)
  | rt (v : VD) (r : Rho)
  | rf (ds : List D) (r : Rho)
  | bk (r : Rho)
  | ct (r : Rho)
  | err (x : Xn) (r : Rho)
  | bad
def PostS (K : PySem.W.Frag) (T : Tb) (W : WX) (β : Bt) (G S : Hp) (r : O) (D : Ends) : Prop := match r with
  | .nx ρ' => ∀ S' σ' H', Same S S' → Ok K T β G S' σ' ρ' H' → D.nx σ' H'
  | .bk ρ' => ∀ S' σ' H', Same S S' → Ok K T β G S' σ' ρ' H' → D.bk σ' H'
  | .ct ρ' => ∀ S' σ' H', Same S S' → Ok K T β G S' σ' ρ' H' → D.ct σ' H'
  | .rt v ρ' => ∀ S' σ' H' u, Same S S' → Ok K T β G S' σ' ρ' H' → RpV K T σ' S' v u → D.rt u H'
  | .rf ds ρ' => ∀ S' σ' H' p vs, Same S S' → Ok K T β G S' σ' ρ' H' → Fre β G S' σ' ρ' p → H' p = some (.lst vs) → Rps K T S' ds vs → D.rt (.ref p) H'
  | .err x ρ' => ∀ S' σ' H' c d, Same S S' → Ok K T β G S' σ' ρ' H' → XR K T S' x c d → W c d σ' H'
  | .bad => False
def rS (K : PySem.W.Frag) (T : Tb) (W : WX) (f : Rho → O) : TS := fun D σ H => ∃ β G S ρ, Ok K T β G S σ ρ H ∧ PostS K T W β G S (f ρ) D
def XS (X : Cx) (T : Tb) (W : WX) (st : Stmt) (f : Rho → O) : Prop := PS X st (rS X.K T W f)
def XB (X : Cx) (T : Tb) (W : WX) (st : List Stmt) (f : Rho → O) : Prop := PSs X st (rS X.K T W f)
def R.thnO {α : Type} (r : R α) (k : α → Rho → O) : O := match r with
  | .ok a q => k a q
  | .err x q => .err x q
  | .bad => .bad
section
variable {K : PySem.W.Frag} {T : Tb} {W : WX} {β : Bt} {G S S' H : Hp} {σ : L2.St} {ρ : Rho} {De : Ends}
theorem PostS.mono {r : O} (h : PostS K T W β G S r De) (e : Same S S') : PostS K T W β G S' r De := by
  cases r with
  | nx ρ' => exact fun S2 s2 H2 e2 o => h S2 s2 H2 (e.trans e2) o
  | bk ρ' => exact fun S2 s2 H2 e2 o => h S2 s2 H2 (e.trans e2) o
  | ct ρ' => exact fun S2 s2 H2 e2 o => h S2 s2 H2 (e.trans e2) o
  | rt v ρ' => exact fun S2 s2 H2 u e2 o => h S2 s2 H2 u (e.trans e2) o
  | rf ds ρ' => exact fun S2 s2 H2 p vs e2 o => h S2 s2 H2 p vs (e.trans e2) o
  | err x ρ' => exact fun S2 s2 H2 c d e2 o => h S2 s2 H2 c d (e.trans e2) o
  | bad => exact h
theorem PostS.thn {α γ : Type} {Rl : Hp → α → γ → Prop} {r : R α} {k : α → Rho → O} {Q' : γ → Hp → Prop} (h : PostS K T W β G S (r.thnO k) De)
    (f : ∀ S1 H1 ρ1 a u, Same S S1 → Ok K T β G S1 σ ρ1 H1 → Rl S1 a u → PostS K T W β G S1 (k a ρ1) De → Q' u H1) : Post K T W β G S σ Rl r Q' := by
  cases r with
  | ok a ρ' => exact fun S1 H1 u e o q => f S1 H1 ρ' a u e o q (PostS.mono h e)
  | err x ρ' => exact fun S1 H1 c d e o q => h S1 σ H1 c d e o q
  | bad => exact h.elim
theorem PostS.thnF {r : R (List D)} {k : List D → Rho → O} {Q' : VK} (h : PostS K T W β G S (r.thnO k) De)
    (f : ∀ S1 H1 ρ1 ds p vs, Same S S1 → Ok K T β G S1 σ ρ1 H1 → Fre β G S1 σ ρ1 p → H1 p = some (.lst vs) → Rps K T S1 ds vs → PostS K T W β G S1 (k ds ρ1) De → Q' (.ref p) H1) : PostF K T W β G S σ r Q' := by
  cases r with
  | ok a ρ' => exact fun S1 H1 p vs e o fr hv q => f S1 H1 ρ' a p vs e o fr hv q (PostS.mono h e)
  | err x ρ' => exact fun S1 H1 c d e o q => h S1 σ H1 c d e o q
  | bad => exact h.elim
end
section
variable {X : Cx} {T : Tb} {W : WX} {a b c e : Expr} {es : List Expr} {fa fb fc : Rho → R VD} {fs : Rho → R (List VD)} {ft fu : Rho → R Bool} {pos : Pos} {st : Stmt} {sts : List Stmt} {g h : Rho → O}
def nextS : Rho → O := fun ρ => .nx ρ
def seqS (g h : Rho → O) : Rho → O := fun ρ => match g ρ with | .nx ρ1 => h ρ1 | r => r
theorem xb_nil : XB X T W [] nextS := pss_nil.impQ fun De σ H q => by
  obtain ⟨β, G, S, ρ, o, p⟩ := q
  exact p S σ H (Same.refl _) o
theorem xb_one (h1 : XS X T W st g) : XB X T W [st] g := pss_one h1
theorem xb_cons (h1 : XS X T W st g) (h2 : XB X T W sts h) : XB X T W (st :: sts) (seqS g h) := (pss_cons h1 h2).impQ fun De σ H q => by
  obtain ⟨β, G, S, ρ, o, p⟩ := q
  refine ⟨β, G, S, ρ, o, ?_⟩
  unfold seqS at p
  revert p
  cases g ρ with
  | nx ρ1 => exact fun p S1 σ1 H1 e o1 => ⟨β, G, S1, ρ1, o1, p.mono e⟩
  | rt v ρ1 => exact fun p => p
  | rf ds ρ1 => exact fun p => p
  | bk ρ1 => exact fun p => p
  | ct ρ1 => exact fun p => p
  | err x ρ1 => exact fun p => p
  | bad => exact fun p => p
def retS (fa : Rho → R VD) : Rho → O := fun ρ => (fa ρ).thnO fun v ρ1 => .rt v ρ1
theorem xs_ret (he : XE X T W e fa) : XS X T W (.Return (some e) pos) (retS fa) := (ps_ret he).impQ fun De σ H q => by
  obtain ⟨β, G, S, ρ, o, p⟩ := q
  exact ⟨β, G, S, ρ, o, PostS.thn (Rl := RpV X.K T σ) p fun S1 H1 ρ1 v u e1 o1 h1 p1 => p1 S1 σ H1 u (Same.refl _) o1 h1⟩
def retF (f : Rho → R (List D)) : Rho → O := fun ρ => (f ρ).thnO fun ds ρ1 => .rf ds ρ1
theorem xs_retF {f : Rho → R (List D)} (he : XF X T W e f) : XS X T W (.Return (some e) pos) (retF f) := (ps_ret he).impQ fun De σ H q => by
  obtain ⟨β, G, S, ρ, o, p⟩ := q
  exact ⟨β, G, S, ρ, o, PostS.thnF p fun S1 H1 ρ1 ds a vs e1 o1 fr hv h1 p1 => p1 S1 σ H1 a vs (Same.refl _) o1 fr hv h1⟩
def dropS (fa : Rho → R VD) : Rho → O := fun ρ => (fa ρ).thnO fun _ ρ1 => .nx ρ1
theorem xs_expr (he : XE X T W e fa) (hs : swapsWith e none pos.line X.env = pure false := by rfl) : XS X T W (.Expr e pos) (dropS fa) := (ps_expr he hs).impQ fun De σ H q => by
  obtain ⟨β, G, S, ρ, o, p⟩ := q
  exact ⟨β, G, S, ρ, o, PostS.thn (Rl := RpV X.K T σ) p fun S1 H1 ρ1 v u e1 o1 h1 p1 => p1 S1 σ H1 (Same.refl _) o1⟩
def ifS (ft : Rho → R Bool) (g h : Rho → O) : Rho → O := fun ρ => (ft ρ).thnO fun k ρ1 => if k then g ρ1 else h ρ1
theorem xs_if {as bs : List Stmt} (hc : XT X T W c ft) (ha : XB X T W as g) (hb : XB X T W bs h) : XS X T W (.If c as bs pos) (ifS ft g h) := (ps_if hc ha hb).impQ fun De σ H q => by
  obtain ⟨β, G, S, ρ, o, p⟩ := q
  refine ⟨β, G, S, ρ, o, PostS.thn (Rl := fun _ (b c : Bool) => b = c) p fun S1 H1 ρ1 v u e1 o1 h1 p1 => ?_⟩
  subst h1
  cases v with
  | true => exact iteT ⟨β, G, S1, ρ1, o1, p1⟩
  | false => exact iteF ⟨β, G, S1, ρ1, o1, p1⟩
/-- x = e: data; a new list of its own -/
def asgS (i : Nat) (fa : Rho → R VD) : Rho → O := fun ρ => (fa ρ).thnO fun v ρ1 => match v with | .d x => .nx (ρ1.set i (.d x)) | .sl _ => .bad
def asgM (i : Nat) (f : Rho → R (List D)) : Rho → O := fun ρ => (f ρ).thnO fun ds ρ1 => .nx (ρ1.set i (.m ds))
theorem xs_set (i : Nat) {x : Str} {pos' : Pos} (hN : X.N.Nodup) (he : XE X T W e fa) (hi : X.N[i]? = some x := by rfl) (hx : Loc X.env.scope x := by first | exact Or.inl rfl | exact Or.inr rfl) (hs : swapsWith e (some (.Name x pos')) pos.line X.env = pure false := by rfl)
    (hf : X.fn x = true ∨ X.env.scope.names.lookup x = some .local := by first | exact .inl rfl | exact .inr rfl) : XS X T W (.Assign [.Name x pos'] e pos) (asgS i fa) := (ps_set hN hi hx he hs hf).impQ fun De σ H q => by
  obtain ⟨β, G, S, ρ, o, p⟩ := q
  refine ⟨β, G, S, ρ, o, PostS.thn (Rl := RpV X.K T σ) p fun S1 H1 ρ1 v u e1 o1 h1 p1 => ?_⟩
  split at p1
  · exact p1 S1 _ H1 (Same.refl _) (o1.setD h1)
  · exact p1.elim
theorem xs_setM (i : Nat) {x : Str} {pos' : Pos} {f : Rho → R (List D)} (hN : X.N.Nodup) (he : XF X T W e f) (hi : X.N[i]? = some x := by rfl) (hx : Loc X.env.scope x := by first | exact Or.inl rfl | exact Or.inr rfl) (hs : swapsWith e (some (.Name x pos')) pos.line X.env = pure false := by rfl)
    (hf : X.fn x = true ∨ X.env.scope.names.lookup x = some .local := by first | exact .inl rfl | exact .inr rfl) : XS X T W (.Assign [.Name x pos'] e pos) (asgM i f) := (ps_set hN hi hx he hs hf).impQ fun De σ H q => by
  obtain ⟨β, G, S, ρ, o, p⟩ := q
  exact ⟨β, G, S, ρ, o, PostS.thnF p fun S1 H1 ρ1 ds a vs e1 o1 fr hv h1 p1 => p1 S1 _ H1 (Same.refl _) (o1.setM fr hv h1)⟩
/-! ### targets -/
/-- what a target does with data -/
def rGt (K : PySem.W.Frag) (T : Tb) (gd : D → Rho → Option Rho) : TG := fun v σ H Q => ∃ β G S ρ x, Ok K T β G S σ ρ H ∧ Rp K T S x v ∧ match gd x ρ with
  | some ρ' => ∀ σ', Ok K T β G S σ' ρ' H → Q σ' H
  | none => False
def XG (X : Cx) (T : Tb) (tg : Expr) (gd : D → Rho → Option Rho) : Prop := PG X tg (rGt X.K T gd)
def nameG (i : Nat) : D → Rho → Option Rho := fun x ρ => some (ρ.set i (.d x))
theorem _root_.L2.PG.impQ {X : Cx} {e : Expr} {t t' : TG} (h : PG X e t) (i : ∀ v σ H Q, t' v σ H Q → t v σ H Q) : PG X e t' := ⟨fun pins s σ H v u Q I r w => h.run pins s σ H v u Q I r (i v σ H Q w)⟩
theorem _root_.L2.PGs.impQ {X : Cx} {e : List Expr} {t t' : TGs} (h : PGs X e t) (i : ∀ v σ H Q, t' v σ H Q → t v σ H Q) : PGs X e t' := ⟨fun pins s σ H v u Q I r w => h.run pins s σ H v u Q I r (i v σ H Q w)⟩
theorem xg_name (i : Nat) {x : Str} (hN : X.N.Nodup) (hi : X.N[i]? = some x := by rfl) (hx : Loc X.env.scope x := by first | exact Or.inl rfl | exact Or.inr rfl) (hf : X.fn x = true ∨ X.env.scope.names.lookup x = some .local := by first | exact .inl rfl | exact .inr rfl) : XG X T (.Name x pos) (nameG i) :=
  (pg_name hN hi hx hf).impQ fun v σ H Q q => by
    obtain ⟨β, G, S, ρ, x, o, r, p⟩ := q
    exact p _ (o.setD r)
def rGts (K : PySem.W.Frag) (T : Tb) (gd : List D → Rho → Option Rho) : TGs := fun vs σ H Q => ∃ β G S ρ xs, Ok K T β G S σ ρ H ∧ Rps K T S xs vs ∧ match gd xs ρ with
  | some ρ' => ∀ σ', Ok K T β G S σ' ρ' H → Q σ' H
  | none => False
def XGs (X : Cx) (T : Tb) (tg : List Expr) (gd : List D → Rho → Option Rho) : Prop := PGs X tg (rGts X.K T gd)
def nilG : List D → Rho → Option Rho := fun xs ρ => match xs with | [] => some ρ | _ => none
def consG (g : D → Rho → Option Rho) (gs : List D → Rho → Option Rho) : List D → Rho → Option Rho := fun xs ρ => match xs with
  | x :: r => (match g x ρ with | some ρ1 => gs r ρ1 | none => none)
  | [] => none
theorem xgs_nil : XGs X T [] nilG := pgs_nil.impQ fun vs σ H Q q => by
  obtain ⟨β, G, S, ρ, xs, o, r, p⟩ := q
  unfold nilG at p
  split at p
  · rename_i ρ' e
    split at e
    · cases e; exact ⟨r, p σ o⟩
    · cases e
  · exact p.elim
theorem xgs_cons {gd : D → Rho → Option Rho} {gds : List D → Rho → Option Rho} (h1 : XG X T e gd) (h2 : XGs X T es gds) (hs : (assignEach (e :: es) X.env).map (·.2) = assign e X.env :: (assignEach es X.env).map (·.2) := by rfl) : XGs X T (e :: es) (consG gd gds) :=
  (pgs_cons h1 h2 hs).impQ fun vs σ H Q q => by
    obtain ⟨β, G, S, ρ, xs, o, r, p⟩ := q
    unfold consG at p
    cases xs with
    | nil => exact p.elim
    | cons x xr =>
      obtain ⟨v, vr, e1, rx, rr⟩ := r
      refine ⟨v, vr, e1, β, G, S, ρ, x, o, rx, ?_⟩
      dsimp only at p
      cases q1 : gd x ρ with
      | none => rw [q1] at p; exact p.elim
      | some ρ1 =>
        rw [q1] at p
        dsimp only at p ⊢
        exact fun σ1 o1 => ⟨β, G, S, ρ1, xr, o1, rr, p⟩
def tupG (n : Nat) (gs : List D → Rho → Option Rho) : D → Rho → Option Rho := fun x ρ => match x with
  | .tup xs => if xs.length = n then gs xs ρ else none
  | .lst xs => if xs.length = n then gs xs ρ else none
  | _ => none
theorem _root_.L2.PG.orQ {X : Cx} {e : Expr} {t t' : TG} (h : PG X e t) (h' : PG X e t') : PG X e (fun v σ H Q => t v σ H Q ∨ t' v σ H Q) := ⟨fun pins s σ H v u Q I r w => by
  rcases w with w | w
  · exact h.run pins s σ H v u Q I r w
  · exact h'.run pins s σ H v u Q I r w⟩
theorem xg_tup {k n : Nat} {gds : List D → Rho → Option Rho} (hc : X.calm = true) (h : XGs X T es gds) (hn : (assignEach es X.env).length = n := by rfl) (hst : (assignEach es X.env).findIdx? (·.1) = none := by rfl) : XG X T (.Tuple es k pos) (tupG n gds) :=
  ((pg_tup hc h hn hst).orQ (pg_unl hc h hn hst)).impQ fun v σ H Q q => by
    obtain ⟨β, G, S, ρ, x, o, r, p⟩ := q
    unfold tupG at p
    cases x with
    | tup xs =>
      obtain ⟨a, vs, e1, q, rr⟩ := r
      dsimp only at p
      by_cases hl : xs.length = n
      · rw [if_pos hl] at p
        exact .inl ⟨a, vs, e1, same_tup o.sh q, rr.len.trans hl, β, G, S, ρ, xs, o, rr, p⟩
      · rw [if_neg hl] at p; exact p.elim
    | lst xs =>
      obtain ⟨a, vs, e1, q, rr⟩ := r
      dsimp only at p
      by_cases hl : xs.length = n
      · rw [if_pos hl] at p
        exact .inr ⟨a, vs, e1, SqL.of (o.sh _ _ q), rr.len.trans hl, β, G, S, ρ, xs, o, rr, p⟩
      · rw [if_neg hl] at p; exact p.elim
    | _ => exact p.elim
/-- target = e -/
def asgG (gd : D → Rho → Option Rho) (fa : Rho → R VD) : Rho → O := fun ρ => (fa ρ).thnO fun v ρ1 => match v with
  | .d x => (match gd x ρ1 with | some ρ2 => .nx ρ2 | none => .bad)
  | .sl _ => .bad
/-! ### what is walked -/
def Wk (K : PySem.W.Frag) (T : Tb) (S : Hp) (ds : List D) (J : It) : Prop := ∀ S1 H1, Same S S1 → SameT T S1 H1 → ∀ i : Nat,
  (∀ d, ds[i]? = some d → J.go i H1 ∧ ∀ x H2, J.yld i H1 x H2 → ∃ S2, Ext T S1 H1 S2 H2 ∧ Rp K T S2 d x) ∧ (i = ds.length → J.stop i H1)
def PostI (K : PySem.W.Frag) (T : Tb) (W : WX) (β : Bt) (G S : Hp) (σ : L2.St) (r : R (List D)) (Q : It → Hp → Prop) : Prop := match r with
  | .ok ds ρ' => ∀ S' H' J, Same S S' → Ok K T β G S' σ ρ' H' → Wk K T S' ds J → Q J H'
  | .err x ρ' => ∀ S' H' c d, Same S S' → Ok K T β G S' σ ρ' H' → XR K T S' x c d → W c d σ H'
  | .bad => False
def rI (K : PySem.W.Frag) (T : Tb) (W : WX) (f : Rho → R (List D)) : TI := fun σ H Q => ∃ β G S ρ, Ok K T β G S σ ρ H ∧ PostI K T W β G S σ (f ρ) Q
def XI (X : Cx) (T : Tb) (W : WX) (tg e : Expr) (f : Rho → R (List D)) : Prop := PI X tg e (rI X.K T W f)
def loopS (body : D → Rho → O) : List D → Rho → O
  | [], ρ => .nx ρ
  | d :: ds, ρ => match body d ρ with
    | .nx ρ1 => loopS body ds ρ1
    | .ct ρ1 => loopS body ds ρ1
    | .bk ρ1 => .nx ρ1
    | r => r
def turnS (gd : D → Rho → Option Rho) (g : Rho → O) : D → Rho → O := fun d ρ => match gd d ρ with
  | some ρ1 => g ρ1
  | none => .bad
def forS (f : Rho → R (List D)) (gd : D → Rho → Option Rho) (g : Rho → O) : Rho → O := fun ρ => (f ρ).thnO fun ds ρ1 => loopS (turnS gd g) ds ρ1
theorem xs_for {tg iter : Expr} {f : Rho → R (List D)} {gd : D → Rho → Option Rho} {body : List Stmt} (hp : PassesOwn (model X.prog X.w) X.A X.env X.xe) (hc : X.calm = true) (hi : XI X T W tg iter f) (hg : XG X T tg gd) (hb : XB X T W body g)
    (hs : ∀ x, foldedSetIterable iter X.env x = pure x := by intro _; rfl) : XS X T W (.For tg iter body [] pos) (forS f gd g) := (ps_for hp hc hi hg hb hs).impQ fun De σ H q => by
  obtain ⟨β, G, S, ρ, o, p⟩ := q
  refine ⟨β, G, S, ρ, o, ?_⟩
  unfold forS at p
  revert p
  cases f ρ with
  | bad => exact fun p => p
  | err x ρ1 => exact fun p S1 H1 c d e o q => p S1 σ H1 c d e o q
  | ok ds ρ1 =>
    intro p S1 H1 J e1 o1 wk
    refine ⟨fun i m σ' H' => m = ds.length - i ∧ i ≤ ds.length ∧ ∃ S2 ρ2, Same S1 S2 ∧ Ok X.K T β G S2 σ' ρ2 H' ∧ PostS X.K T W β G S2 (loopS (turnS gd g) (ds.drop i) ρ2) De,
      ⟨_, rfl, Nat.zero_le _, S1, ρ1, Same.refl _, o1, p.mono e1⟩, ?_⟩
    rintro i m σ2 H2 ⟨rfl, hi2, S2, ρ2, e2, o2, p2⟩
    by_cases hlt : i < ds.length
    · obtain ⟨hgo, hy⟩ := (wk S2 H2 e2 o2.sh i).1 ds[i] (List.getElem?_eq_getElem hlt)
      rw [List.drop_eq_getElem_cons hlt] at p2
      refine .inr ⟨hgo, fun σ' H' => ∃ S3 ρ3, Same S1 S3 ∧ Ok X.K T β G S3 σ' ρ3 H' ∧ PostS X.K T W β G S3 (loopS (turnS gd g) (ds.drop (i + 1)) ρ3) De, ?_, ?_⟩
      · rintro σ' H' ⟨S3, ρ3, e3, o3, p3⟩
        exact ⟨ds.length - (i + 1), by omega, rfl, hlt, S3, ρ3, e3, o3, p3⟩
      · intro x H3 hyx
        obtain ⟨S3, x3, r3⟩ := hy x H3 hyx
        have o3 := o2.ext x3
        refine ⟨β, G, S3, ρ2, ds[i], o3, r3, ?_⟩
        unfold loopS turnS at p2
        cases q1 : gd ds[i] ρ2 with
        | none => rw [q1] at p2; exact p2.elim
        | some ρ3 =>
          rw [q1] at p2
          dsimp only at p2 ⊢
          intro σ3 o4
          refine ⟨β, G, S3, ρ3, o4, ?_⟩
          have p3 := p2.mono x3.s
          revert p3
          cases g ρ3 with
          | nx ρ4 => exact fun p3 S4 σ4 H4 e4 o5 => ⟨S4, ρ4, (e2.trans x3.s).trans e4, o5, p3.mono e4⟩
          | ct ρ4 => exact fun p3 S4 σ4 H4 e4 o5 => ⟨S4, ρ4, (e2.trans x3.s).trans e4, o5, p3.mono e4⟩
          | bk ρ4 => exact fun p3 => p3
          | rt v ρ4 => exact fun p3 => p3
          | rf ds ρ4 => exact fun p3 => p3
          | err x ρ4 => exact fun p3 => p3
          | bad => exact fun p3 => p3
    · have e : i = ds.length := by omega
      subst e
      rw [List.drop_length] at p2
      exact .inl ⟨(wk S2 H2 e2 o2.sh _).2 rfl, p2 S2 σ2 H2 (Same.refl _) o2⟩
end
end Lq
namespace Lq
open PySem PySem.Spec PyProof.Rows L2
/-! ### walks -/
def chars (s : Str) : List D := s.cps.toList.map fun c => D.str ⟨#[c]⟩
def itemsOf : D → Option (List D)
  | .lst xs => some xs
  | .tup xs => some xs
  | .str s => some (chars s)
  | _ => none
section
variable {K : PySem.W.Frag} {T : Tb} {W : WX} {β : Bt} {G S S' H : Hp} {σ : L2.St} {ρ : Rho} {X : Cx} {tg e : Expr} {es : List Expr} {fa : Rho → R VD} {fs : Rho → R (List VD)} {pos : Pos}
theorem PostI.mono {r : R (List D)} {Q : It → Hp → Prop} (h : PostI K T W β G S σ r Q) (e : Same S S') : PostI K T W β G S' σ r Q := by
  cases r with
  | ok a ρ' => exact fun S2 H2 J e2 o => h S2 H2 J (e.trans e2) o
  | err x ρ' => exact fun S2 H2 c d e2 o => h S2 H2 c d (e.trans e2) o
  | bad => exact h
theorem PostI.thn {α γ : Type} {Rl : Hp → α → γ → Prop} {r : R α} {k : α → Rho → R (List D)} {Q : It → Hp → Prop} {Q' : γ → Hp → Prop} (h : PostI K T W β G S σ (r.bind k) Q)
    (f : ∀ S1 H1 ρ1 a u, Same S S1 → Ok K T β G S1 σ ρ1 H1 → Rl S1 a u → PostI K T W β G S1 σ (k a ρ1) Q → Q' u H1) : Post K T W β G S σ Rl r Q' := by
  cases r with
  | ok a ρ' => exact fun S1 H1 u e o q => f S1 H1 ρ' a u e o q (PostI.mono h e)
  | err x ρ' => exact h
  | bad => exact h.elim
/-- a list, a tuple, a text, whichever it is -/
theorem pi_any {l : Expr} {tl : TE} (hl : PE X l tl) : PI X tg l (fun σ H Q => tl σ H fun x H1 => (∃ a, x = .ref a ∧ (∃ xs, SqL X.K H1 a xs) ∧ Q (Itl X.K a) H1) ∨ (∃ a, x = .ref a ∧ (∃ xs, SqT X.K H1 a xs) ∧ Q (Itt X.K a) H1) ∨ (∃ z, x = .str z ∧ Q (Its z) H1)) := by
  refine ⟨fun pins s σ H Q I h => thn (hl.run pins s σ H _ I h) fun v s1 ⟨x, H1, I1, r1, q1⟩ => ?_⟩
  rcases q1 with ⟨a, rfl, ⟨xs, hq⟩, q⟩ | ⟨a, rfl, ⟨xs, hq⟩, q⟩ | ⟨z, rfl, q⟩
  · cases r1
    obtain ⟨its, _, p, _⟩ := I1.list hq
    exact wpAny_pyIter_list p.isList (pi_one (tk := s1.toks) I1 _ (turn_list a _) ⟨_, Heap.get?_push_size _ rfl, rfl, rfl⟩ q)
  · cases r1
    obtain ⟨its, _, p, _⟩ := I1.tuple hq
    exact wpAny_pyIter_tuple (show s1.heap.IsTuple a its.toArray from p) (pi_one (tk := s1.toks) I1 _ (turn_tuple a _) ⟨_, Heap.get?_push_size _ rfl, rfl, rfl⟩ q)
  · obtain ⟨t, rfl⟩ := r1
    cases ha : z.cps.all (· < 128)
    · exact wpAny_pyIter_wide ha (pi_one (tk := s1.toks) I1 _ (turn_str _ z t _ (.inr rfl)) ⟨_, Heap.get?_push_size _ rfl, rfl, rfl⟩ q)
    · exact wpAny_pyIter_ascii ha (pi_one (tk := s1.toks) I1 _ (turn_str _ z t _ (.inl rfl)) ⟨_, Heap.get?_push_size _ rfl, rfl, rfl⟩ q)
theorem wk_str {z : Str} : Wk K T S (chars z) (Its z) := fun S1 H1 e1 e2 i => by
  refine ⟨fun d hd => ?_, fun hl => have hl := Nat.le_of_eq hl.symm; ?_⟩
  · unfold chars at hd
    rw [List.getElem?_map] at hd
    cases q : z.cps.toList[i]? with
    | none => rw [q] at hd; cases hd
    | some c =>
      rw [q] at hd
      have hd' : D.str ⟨#[c]⟩ = d := Option.some.inj hd
      subst hd'
      have hi : i < z.cps.size := by have := (List.getElem?_eq_some_iff.mp q).1; simpa using this
      refine ⟨hi, fun x H2 hy => ?_⟩
      obtain ⟨rfl, c', hc, rfl⟩ := hy
      refine ⟨S1, Ext.refl e2, ?_⟩
      have : c' = c := by
        rw [Array.getElem?_toList] at q
        rw [hc] at q; exact Option.some.inj q
      rw [this]; rfl
  · unfold chars at hl
    show z.cps.size ≤ i
    simpa using hl
/-- a slot's own list becomes plain data -/
theorem Ok.frzSlot (o : Ok K T β G S σ ρ H) {i : Nat} {xs : List D} (h : ρ[i]? = some (.m xs)) : ∃ a vs, σ[i]? = some (some (.ref a)) ∧ H a = some (.lst vs) ∧ S a = none ∧ Rps K T S xs vs ∧ Ok K T β G (upd S a (.lst vs)) σ (ρ.set i (.d (.lst xs))) H := by
  obtain ⟨a, vs, e1, e2, e3, e4, e5, r⟩ := o.cel i _ h
  have hl := o.lt h
  have es : σ.set i (some (.ref a)) = σ := by
    apply List.ext_getElem?
    intro j
    by_cases hj : j = i
    · subst hj; rw [List.getElem?_set_self hl, e1]
    · rw [List.getElem?_set_ne (Ne.symm hj)]
  have o1 := o.setN (i := i) (v := some (.ref a))
  rw [es] at o1
  have fr : Fre β G S σ (ρ.set i .no) a := ⟨e3, e4, e5, fun j ys q z => by
    have hj : j ≠ i := fun e => by subst e; cases get_set_eq q
    rw [List.getElem?_set_ne (Ne.symm hj)] at q
    exact hj (o.dis j i ys xs q h (z.trans e1.symm)), fun j l q z => (by
    have hj : j ≠ i := fun e => by subst e; cases get_set_eq q
    rw [List.getElem?_set_ne (Ne.symm hj)] at q
    obtain ⟨a', kvs, f1, f2, _⟩ := o.cel j _ q
    rw [f1] at z; cases z; rw [e2] at f2; cases f2), fun j l q z => by
    have hj : j ≠ i := fun e => by subst e; cases get_set_eq q
    rw [List.getElem?_set_ne (Ne.symm hj)] at q
    obtain ⟨a', kvs, f1, f2, _⟩ := o.cel j _ q
    rw [f1] at z; cases z; rw [e2] at f2; cases f2⟩
  have o2 := o1.freeze fr e2
  have o3 := o2.setD (i := i) (x := .lst xs) (v := .ref a) ⟨a, vs, rfl, upd_same, Rps.mono (same_new e3) _ _ r⟩
  rw [es, List.set_set] at o3
  exact ⟨a, vs, e1, e2, e3, r, o3⟩
def seqI (fa : Rho → R VD) : Rho → R (List D) := fun ρ => (fa ρ).bind fun v ρ1 => match v with
  | .d x => (match itemsOf x with | some ds => .ok ds ρ1 | none => .bad)
  | .sl i => (match ρ1[i]? with | some (.m xs) => .ok xs (ρ1.set i (.d (.lst xs))) | _ => .bad)
theorem wk_list' {a : Addr} {ds : List D} {vs : List V} (h : S a = some (.lst vs)) (r : Rps K T S ds vs) : Wk K T S ds (Itl K a) := fun S1 H1 e1 e2 i => by
  have h1 : H1 a = some (.lst vs) := e2 _ _ (e1 _ _ h)
  refine ⟨fun d hd => ?_, fun hl => have hl := Nat.le_of_eq hl.symm; ⟨vs, SqL.of h1, by rw [r.len]; exact hl⟩⟩
  obtain ⟨v, hv, rv⟩ := r.get hd
  refine ⟨⟨vs, v, SqL.of h1, hv⟩, fun x H2 hy => ?_⟩
  obtain ⟨rfl, hx⟩ := hy
  have := hx vs (SqL.of h1)
  rw [hv] at this; cases this
  exact ⟨S1, Ext.refl e2, Rp.mono e1 _ _ rv⟩
theorem wk_tup {a : Addr} {ds : List D} {vs : List V} (h : SqT K S a vs) (r : Rps K T S ds vs) : Wk K T S ds (Itt K a) := fun S1 H1 e1 e2 i => by
  have h1 : SqT K H1 a vs := same_tup e2 (same_tup e1 h)
  refine ⟨fun d hd => ?_, fun hl => have hl := Nat.le_of_eq hl.symm; ⟨vs, h1, by rw [r.len]; exact hl⟩⟩
  obtain ⟨v, hv, rv⟩ := r.get hd
  refine ⟨⟨vs, v, h1, hv⟩, fun x H2 hy => ?_⟩
  obtain ⟨rfl, hx⟩ := hy
  have := hx vs h1
  rw [hv] at this; cases this
  exact ⟨S1, Ext.refl e2, Rp.mono e1 _ _ rv⟩
theorem _root_.L2.PI.impQ {X : Cx} {tg e : Expr} {t t' : TI} (h : PI X tg e t) (i : ∀ σ H Q, t' σ H Q → t σ H Q) : PI X tg e t' := ⟨fun pins s σ H Q I w => h.run pins s σ H Q I (i σ H Q w)⟩
theorem xi_seq (he : XE X T W e fa) : XI X T W tg e (seqI fa) := (pi_any he).impQ fun σ H Q h => by
  obtain ⟨β, G, S, ρ, o, p⟩ := h
  refine ⟨β, G, S, ρ, o, PostI.thn (Rl := RpV X.K T σ) p fun S1 H1 ρ1 v u e1 o1 h1 p1 => ?_⟩
  cases v with
  | d x =>
    dsimp only at p1
    cases x with
    | lst ds =>
      obtain ⟨a, vs, e2, q, r⟩ := h1
      exact .inl ⟨a, e2, ⟨vs, SqL.of (o1.sh _ _ q)⟩, p1 S1 H1 _ (Same.refl _) o1 (wk_list' q r)⟩
    | tup ds =>
      obtain ⟨a, vs, e2, q, r⟩ := h1
      exact .inr (.inl ⟨a, e2, ⟨vs, same_tup o1.sh q⟩, p1 S1 H1 _ (Same.refl _) o1 (wk_tup q r)⟩)
    | str z => exact .inr (.inr ⟨z, h1, p1 S1 H1 _ (Same.refl _) o1 wk_str⟩)
    | _ => exact p1.elim
  | sl i =>
    dsimp only at p1
    split at p1
    · rename_i xs q
      obtain ⟨a, vs, e2, e3, e4, r, o2⟩ := o1.frzSlot q
      have : σ[i]? = some (some u) := h1
      rw [e2] at this; cases this
      exact .inl ⟨a, rfl, ⟨vs, SqL.of e3⟩, p1 _ H1 _ (same_new e4) o2 (wk_list' upd_same (Rps.mono (same_new e4) _ _ r))⟩
    · exact p1.elim
/-- range(n), range(m, n) -/
def rng (lo : Int) (n : Nat) : List D := (List.range n).map fun i => D.int (lo + (i : Nat))
theorem wk_rng {lo : Int} {n : Nat} : Wk K T S (rng lo n) (Itr lo n) := fun S1 H1 e1 e2 i => by
  unfold rng
  refine ⟨fun d hd => ?_, fun hl => have hl := Nat.le_of_eq hl.symm; ?_⟩
  · rw [List.getElem?_map] at hd
    cases q : (List.range n)[i]? with
    | none => rw [q] at hd; cases hd
    | some j =>
      rw [q] at hd
      obtain ⟨h1, h2⟩ := List.getElem?_eq_some_iff.mp q
      rw [List.length_range] at h1
      rw [List.getElem_range] at h2
      subst h2
      cases hd
      refine ⟨h1, fun x H2 hy => ?_⟩
      obtain ⟨rfl, rfl⟩ := hy
      exact ⟨S1, Ext.refl e2, rfl⟩
  · rw [List.length_map, List.length_range] at hl
    exact hl
def okR (i : Int) : Bool := Nat.ble i.natAbs 4611686018427387903
theorem okR_of {i : Int} (h : okR i = true) : -(2 ^ 62) ≤ i ∧ i < 2 ^ 62 := by
  unfold okR at h
  have := Nat.le_of_ble_eq_true h
  omega
def rngI1 (fs : Rho → R (List VD)) : Rho → R (List D) := fun ρ => (fs ρ).bind fun vs ρ1 => match vs with
  | [.d (.int n)] => if okR n then .ok (rng 0 n.toNat) ρ1 else .bad
  | _ => .bad
def rngI2 (fs : Rho → R (List VD)) : Rho → R (List D) := fun ρ => (fs ρ).bind fun vs ρ1 => match vs with
  | [.d (.int m), .d (.int n)] => if okR m && okR n then .ok (rng m (n - m).toNat) ρ1 else .bad
  | _ => .bad
theorem RpVs.one {v : VD} {us : List V} (h : RpVs K T σ S [v] us) : ∃ u, us = [u] ∧ RpV K T σ S v u := by
  obtain ⟨u, r, e1, h1, h2⟩ := h
  rw [show r = [] from h2] at e1
  exact ⟨u, e1, h1⟩
theorem RpVs.two {v w : VD} {us : List V} (h : RpVs K T σ S [v, w] us) : ∃ u z, us = [u, z] ∧ RpV K T σ S v u ∧ RpV K T σ S w z := by
  obtain ⟨u, r, e1, h1, h2⟩ := h
  obtain ⟨z, e2, h3⟩ := h2.one
  rw [e2] at e1
  exact ⟨u, z, e1, h1, h3⟩
theorem xi_range1 {p : Pos} (hm : X.mg "range" = none) (ha : XA X T W [e] fs) (hg : L2.Gl X "range" := by rfl) (hs : starEach [e] X.env = [(false, eval e X.env)] := by rfl) : XI X T W tg (.Call (.Name "range" p) [e] [] pos) (rngI1 fs) := (pi_range1 hg hm ha hs).impQ fun σ H Q h => by
  obtain ⟨β, G, S, ρ, o, p⟩ := h
  refine ⟨β, G, S, ρ, o, PostI.thn (Rl := RpVs X.K T σ) p fun S1 H1 ρ1 v u e1 o1 h1 p1 => ?_⟩
  split at p1
  · rename_i n
    split at p1
    · rename_i hn
      obtain ⟨z, rfl, hz⟩ := h1.one
      have hb := okR_of hn
      exact ⟨n, by rw [show z = .int n from hz], hb.1, hb.2, p1 S1 H1 _ (Same.refl _) o1 wk_rng⟩
    · exact p1.elim
  · exact p1.elim
/-- enumerate of a list -/
def enumD (ds : List D) : List D := ds.zipIdx.map fun p => D.tup [.int (p.2 : Nat), p.1]
def enumI (fs : Rho → R (List VD)) : Rho → R (List D) := fun ρ => (fs ρ).bind fun vs ρ1 => match vs with
  | [.d (.lst ds)] => .ok (enumD ds) ρ1
  | [.sl i] => (match ρ1[i]? with | some (.m xs) => .ok (enumD xs) (ρ1.set i (.d (.lst xs))) | _ => .bad)
  | _ => .bad
/-- zip of two lists, of two tuples -/
def zipD (xs ys : List D) : List D := (xs.zip ys).map fun p => D.tup [p.1, p.2]
theorem zip_get {xs ys : List D} {i : Nat} {d : D} (h : (zipD xs ys)[i]? = some d) : ∃ x y, xs[i]? = some x ∧ ys[i]? = some y ∧ d = .tup [x, y] := by
  unfold zipD at h
  rw [List.getElem?_map] at h
  cases q : (xs.zip ys)[i]? with
  | none => rw [q] at h; cases h
  | some p =>
    rw [q] at h
    obtain ⟨h1, h2⟩ := List.getElem?_zip_eq_some.mp q
    exact ⟨p.1, p.2, h1, h2, (Option.some.inj h).symm⟩
theorem pair_new {S1 H1 : Hp} {t : Addr} {x y : D} {v w : V} (e2 : SameT T S1 H1) (ht : H1 t = none) (rx : Rp K T S1 x v) (ry : Rp K T S1 y w) : ∃ S2, Ext T S1 H1 S2 (upd H1 t (.tup [v, w])) ∧ Rp K T S2 (.tup [x, y]) (.ref t) := by
  have sn := same_new (o := .tup [v, w]) (e2.free ht)
  exact ⟨upd S1 t (.tup [v, w]), Ext.new e2 ht, t, [v, w], rfl, SqT.of upd_same, _, _, rfl, Rp.mono sn _ _ rx, _, _, rfl, Rp.mono sn _ _ ry, rfl⟩
theorem wk_zipL {a b : Addr} {xs ys : List D} {vs ws : List V} (h : S a = some (.lst vs)) (r : Rps K T S xs vs) (h' : S b = some (.lst ws)) (r' : Rps K T S ys ws) : Wk K T S (zipD xs ys) (Itz K a b) := fun S1 H1 e1 e2 i => by
  have h1 : H1 a = some (.lst vs) := e2 _ _ (e1 _ _ h)
  have h2 : H1 b = some (.lst ws) := e2 _ _ (e1 _ _ h')
  refine ⟨fun d hd => ?_, fun hl => have hl := Nat.le_of_eq hl.symm; ⟨vs, ws, SqL.of h1, SqL.of h2, ?_⟩⟩
  · obtain ⟨x, y, q1, q2, rfl⟩ := zip_get hd
    obtain ⟨v, hv, rv⟩ := r.get q1
    obtain ⟨w, hw, rw'⟩ := r'.get q2
    refine ⟨⟨vs, ws, v, w, SqL.of h1, SqL.of h2, hv, hw⟩, fun z H2 hy => ?_⟩
    obtain ⟨t, x1, x2, rfl, ht, rfl, f1, f2⟩ := hy
    have g1 := f1 vs (SqL.of h1)
    have g2 := f2 ws (SqL.of h2)
    rw [hv] at g1; cases g1
    rw [hw] at g2; cases g2
    exact pair_new e2 ht (Rp.mono e1 _ _ rv) (Rp.mono e1 _ _ rw')
  · unfold zipD at hl
    rw [List.length_map, List.length_zip] at hl
    rw [r.len, r'.len]
    omega
theorem wk_zipT {a b : Addr} {xs ys : List D} {vs ws : List V} (h : SqT K S a vs) (r : Rps K T S xs vs) (h' : SqT K S b ws) (r' : Rps K T S ys ws) : Wk K T S (zipD xs ys) (RZ.ItzT K a b) := fun S1 H1 e1 e2 i => by
  have h1 : SqT K H1 a vs := same_tup e2 (same_tup e1 h)
  have h2 : SqT K H1 b ws := same_tup e2 (same_tup e1 h')
  refine ⟨fun d hd => ?_, fun hl => have hl := Nat.le_of_eq hl.symm; ⟨vs, ws, h1, h2, ?_⟩⟩
  · obtain ⟨x, y, q1, q2, rfl⟩ := zip_get hd
    obtain ⟨v, hv, rv⟩ := r.get q1
    obtain ⟨w, hw, rw'⟩ := r'.get q2
    refine ⟨⟨vs, ws, v, w, h1, h2, hv, hw⟩, fun z H2 hy => ?_⟩
    obtain ⟨t, x1, x2, rfl, ht, rfl, f1, f2⟩ := hy
    have g1 := f1 vs h1
    have g2 := f2 ws h2
    rw [hv] at g1; cases g1
    rw [hw] at g2; cases g2
    exact pair_new e2 ht (Rp.mono e1 _ _ rv) (Rp.mono e1 _ _ rw')
  · unfold zipD at hl
    rw [List.length_map, List.length_zip] at hl
    rw [r.len, r'.len]
    omega
def zipI (fs : Rho → R (List VD)) : Rho → R (List D) := fun ρ => (fs ρ).bind fun vs ρ1 => match vs with
  | [.d (.lst xs), .d (.lst ys)] => .ok (zipD xs ys) ρ1
  | [.d (.tup xs), .d (.tup ys)] => .ok (zipD xs ys) ρ1
  | _ => .bad
theorem xi_zip {p tpos : Pos} {e2 : Expr} {elts : List Expr} {kk : Nat} (hm : X.mg "zip" = none) (ha : XA X T W [e, e2] fs) (hg : L2.Gl X "zip" := by rfl) (hs : starEach [e, e2] X.env = (false, eval e X.env) :: starEach [e2] X.env := by rfl) (hpl : (backTo pos (starEach [e2] X.env)).any (·.1) = false := by rfl) : XI X T W (.Tuple elts kk tpos) (.Call (.Name "zip" p) [e, e2] [] pos) (zipI fs) := (RZ.pi_zipA hg hm ha hs hpl).impQ fun σ H Q h => by
  obtain ⟨β, G, S, ρ, o, p⟩ := h
  refine ⟨β, G, S, ρ, o, PostI.thn (Rl := RpVs X.K T σ) p fun S1 H1 ρ1 v u e1 o1 h1 p1 => ?_⟩
  split at p1
  · obtain ⟨z, y, rfl, ⟨a, vs, rfl, q, r⟩, b, ws, rfl, q', r'⟩ := h1.two
    exact ⟨a, b, vs, ws, rfl, .inl ⟨SqL.of (o1.sh _ _ q), SqL.of (o1.sh _ _ q'), p1 S1 H1 _ (Same.refl _) o1 (wk_zipL q r q' r')⟩⟩
  · obtain ⟨z, y, rfl, ⟨a, vs, rfl, q, r⟩, b, ws, rfl, q', r'⟩ := h1.two
    exact ⟨a, b, vs, ws, rfl, .inr ⟨same_tup o1.sh q, same_tup o1.sh q', p1 S1 H1 _ (Same.refl _) o1 (wk_zipT q r q' r')⟩⟩
  · exact p1.elim
end
end Lq
namespace Lq
open PySem PySem.Spec PyProof.Rows L2
/-! ### comprehensions -/
def wipeR (ρ : Rho) : List Nat → Rho
  | [] => ρ
  | v :: vs => (wipeR ρ vs).set v .no
def backR (ρ0 ρ : Rho) : List Nat → Rho
  | [] => ρ
  | v :: vs => (backR ρ0 ρ vs).set v (ρ0.getD v .no)
def plainC : Cell → Bool
  | .no => true
  | .d _ => true
  | _ => false
section
variable {K : PySem.W.Frag} {T : Tb} {W : WX} {β : Bt} {G S S' H : Hp} {σ : L2.St} {ρ : Rho}
theorem wipeR_len (ρ : Rho) : ∀ vs : List Nat, (wipeR ρ vs).length = ρ.length
  | [] => rfl
  | v :: vs => by unfold wipeR; rw [List.length_set, wipeR_len ρ vs]
theorem Ok.wipe (o : Ok K T β G S σ ρ H) : ∀ vs : List Nat, Ok K T β G S (L2.wipe σ vs) (wipeR ρ vs) H
  | [] => o
  | v :: vs => (Ok.wipe o vs).setN
theorem wipe_in {σ : L2.St} : ∀ {vs : List Nat} {v : Nat}, v ∈ vs → v < σ.length → (L2.wipe σ vs)[v]? = some none
  | [], _, h, _ => by cases h
  | w :: vs, v, h, hl => by
    unfold L2.wipe
    by_cases e : w = v
    · subst e; exact List.getElem?_set_self (by rw [wipe_length]; exact hl)
    · rw [List.getElem?_set_ne e]
      exact wipe_in ((List.mem_cons.mp h).resolve_left (fun z => e z.symm)) hl
theorem wipe_out' {σ : L2.St} : ∀ {vs : List Nat} {v : Nat}, v ∉ vs → (L2.wipe σ vs)[v]? = σ[v]?
  | [], _, _ => rfl
  | w :: vs, v, h => by
    unfold L2.wipe
    simp only [List.mem_cons, not_or] at h
    rw [List.getElem?_set_ne (Ne.symm h.1)]
    exact wipe_out' h.2
theorem backR_len (ρ0 ρ : Rho) : ∀ vs : List Nat, (backR ρ0 ρ vs).length = ρ.length
  | [] => rfl
  | v :: vs => by unfold backR; rw [List.length_set, backR_len ρ0 ρ vs]
theorem backR_out {ρ0 ρ : Rho} : ∀ {vs : List Nat} {v : Nat}, v ∉ vs → (backR ρ0 ρ vs)[v]? = ρ[v]?
  | [], _, _ => rfl
  | w :: vs, v, h => by
    unfold backR
    simp only [List.mem_cons, not_or] at h
    rw [List.getElem?_set_ne (Ne.symm h.1)]
    exact backR_out h.2
theorem backR_in {ρ0 ρ : Rho} : ∀ {vs : List Nat} {v : Nat}, v ∈ vs → v < ρ.length → (backR ρ0 ρ vs)[v]? = some (ρ0.getD v .no)
  | [], _, h, _ => by cases h
  | w :: vs, v, h, hl => by
    unfold backR
    by_cases e : w = v
    · subst e; exact List.getElem?_set_self (by rw [backR_len]; exact hl)
    · rw [List.getElem?_set_ne e]
      exact backR_in ((List.mem_cons.mp h).resolve_left (fun z => e z.symm)) hl
/-- behind a comprehension: its own names are as they were -/
theorem Ok.back {ρ0 : Rho} {S0 H0 : Hp} {vs : List Nat} (o0 : Ok K T β G S0 σ ρ0 H0) (o : Ok K T β G S (L2.wipe σ vs) ρ H) (e : Same S0 S) (hp : ∀ v ∈ vs, plainC (ρ0.getD v .no) = true) : Ok K T β G S σ (backR ρ0 ρ vs) H where
  sh := o.sh
  gh := o.gh
  gs := o.gs
  gb := o.gb
  bx := o.bx
  len := by rw [backR_len, ← o.len, wipe_length]
  cel := fun i c q => by
    by_cases hi : i ∈ vs
    · have hl : i < ρ.length := by have := (List.getElem?_eq_some_iff.mp q).1; rwa [backR_len] at this
      rw [backR_in hi hl] at q
      have q' : ρ0.getD i .no = c := Option.some.inj q
      have hpi := hp i hi
      rw [q'] at hpi
      cases c with
      | no => trivial
      | d x =>
        have q2 : ρ0[i]? = some (.d x) := by
          rw [List.getD_eq_getElem?_getD] at q'
          cases z : ρ0[i]? with
          | none => rw [z] at q'; cases q'
          | some y => rw [z] at q'; simp at q'; rw [q']
        obtain ⟨u, e1, r⟩ := o0.cel i _ q2
        exact ⟨u, e1, Rp.mono e _ _ r⟩
      | m xs => cases hpi
      | b ns => cases hpi
      | k l => cases hpi
      | kt l => cases hpi
      | z => first | exact h1 | exact h | (obtain ⟨_, _, _, e2⟩ := h1; cases e2) | cases hpi | cases hk' | cases pl
      | s t => cases hpi
    · rw [backR_out hi] at q
      have := o.cel i c q
      rw [wipe_out' hi] at this
      exact this
  dis := fun i j xs ys q1 q2 e1 => by
    have k : ∀ i xs, (backR ρ0 ρ vs)[i]? = some (.m xs) → i ∉ vs := fun i xs q hi => by
      have hl : i < ρ.length := by have := (List.getElem?_eq_some_iff.mp q).1; rwa [backR_len] at this
      rw [backR_in hi hl] at q
      have hpi := hp i hi
      rw [Option.some.inj q] at hpi; cases hpi
    have hi := k i xs q1
    have hj := k j ys q2
    rw [backR_out hi] at q1
    rw [backR_out hj] at q2
    exact o.dis i j xs ys q1 q2 (by rw [wipe_out' hi, wipe_out' hj]; exact e1)
/-- a new thing is guarded -/
theorem Ok.guard (o : Ok K T β G S σ ρ H) {p : Addr} {u : HO} (h : H p = none) : Ok K T β (upd G p u) S σ ρ (upd H p u) where
  sh := o.sh.skip h
  gh := same_upd2 o.gh
  gs := fun b v q n => by
    by_cases hb : b = p
    · subst hb; exact o.sh.free h
    · rw [upd_ne hb] at q; exact o.gs b v q n
  gb := fun b q => by
    obtain ⟨ns, hb, _⟩ := o.bx b q
    rw [upd_ne (ne_of_none hb h)]; exact o.gb b q
  bx := fun b q => by
    obtain ⟨ns, hb, hn⟩ := o.bx b q
    exact (same_new h).there hb hn
  len := o.len
  cel := fun i c q => by
    have h1 := o.cel i c q
    cases c with
    | no => trivial
    | d x => exact h1
    | m xs =>
      obtain ⟨a, vs, e1, e2, e3, e4, e5, r⟩ := h1
      exact ⟨a, vs, e1, same_new h _ _ e2, e3, by rw [upd_ne (ne_of_none e2 h)]; exact e4, e5, r⟩
    | k l =>
      obtain ⟨a, kvs, e1, e2, e3, e4, e5, ek, r⟩ := h1
      exact ⟨a, kvs, e1, same_new h _ _ e2, e3, by rw [upd_ne (ne_of_none e2 h)]; exact e4, e5, ek, r⟩
    | kt l =>
      obtain ⟨a, kvs, e1, e2, e3, e4, e5, ek, r⟩ := h1
      exact ⟨a, kvs, e1, same_new h _ _ e2, e3, by rw [upd_ne (ne_of_none e2 h)]; exact e4, e5, ek, r⟩
    | b ns => obtain ⟨a, e1, e2, e3⟩ := h1; exact ⟨a, e1, e2, same_new h _ _ e3⟩
    | z => first | exact h1 | exact h | (obtain ⟨_, _, _, e2⟩ := h1; cases e2) | cases hpi | cases hk' | cases pl
    | s t =>
      obtain ⟨a, dx, e1, e2, e3, e4, e5, e6, e7, e8⟩ := h1
      exact ⟨a, dx, e1, e2, same_new h _ _ e3, same_new h _ _ e4, e5, by rw [upd_ne (ne_of_none e4 h)]; exact e6, e7, by rw [upd_ne (ne_of_none e3 h)]; exact e8⟩
  dis := o.dis
/-- what is guarded is changed -/
theorem Ok.reguard {p : Addr} {u u' : HO} (o : Ok K T β (upd G p u) S σ ρ H) (hg : G p = none) (nu : NoT u := by exact fun _ z => nomatch z) (nb : NoTb u := by exact fun _ z => nomatch z) (ne : ∀ φ, u ≠ .ext φ := by exact fun _ z => nomatch z) : Ok K T β (upd G p u') S σ ρ (upd H p u') where
  sh := o.sh.step (Keep.upd (o.gh.at_ p u upd_same nb) nb ne) fun b v q => by
    have hb : b ≠ p := fun z => by subst z; rw [o.gs b u upd_same nu] at q; cases q
    exact .inr ⟨q, upd_ne hb⟩
  gh := o.gh.step fun b v q => by
    by_cases hb : b = p
    · subst hb; rw [upd_same] at q ⊢; exact .inl q
    · rw [upd_ne hb] at q; exact .inr ⟨by rw [upd_ne hb]; exact q, upd_ne hb⟩
  gs := fun b v q n => by
    by_cases hb : b = p
    · subst hb; exact o.gs b u upd_same nu
    · rw [upd_ne hb] at q; exact o.gs b v (by rw [upd_ne hb]; exact q) n
  gb := fun b q => by
    have hb : b ≠ p := fun z => by subst z; have := (o.gb b q).1; rw [upd_same] at this; cases this
    rw [upd_ne hb]; have := o.gb b q; rw [upd_ne hb] at this; exact this
  bx := fun b q => by
    have hb : b ≠ p := fun z => by subst z; have := (o.gb b q).1; rw [upd_same] at this; cases this
    rw [upd_ne hb]; exact o.bx b q
  len := o.len
  cel := fun i c q => by
    have h1 := o.cel i c q
    cases c with
    | no => trivial
    | d x => exact h1
    | m xs =>
      obtain ⟨a, vs, e1, e2, e3, e4, e5, r⟩ := h1
      have hb : a ≠ p := fun z => by subst z; rw [upd_same] at e4; cases e4
      exact ⟨a, vs, e1, by rw [upd_ne hb]; exact e2, e3, by rw [upd_ne hb] at e4 ⊢; exact e4, e5, r⟩
    | k l =>
      obtain ⟨a, kvs, e1, e2, e3, e4, e5, ek, r⟩ := h1
      have hb : a ≠ p := fun z => by subst z; rw [upd_same] at e4; cases e4
      exact ⟨a, kvs, e1, by rw [upd_ne hb]; exact e2, e3, by rw [upd_ne hb] at e4 ⊢; exact e4, e5, ek, r⟩
    | kt l =>
      obtain ⟨a, kvs, e1, e2, e3, e4, e5, ek, r⟩ := h1
      have hb : a ≠ p := fun z => by subst z; rw [upd_same] at e4; cases e4
      exact ⟨a, kvs, e1, by rw [upd_ne hb]; exact e2, e3, by rw [upd_ne hb] at e4 ⊢; exact e4, e5, ek, r⟩
    | b ns =>
      obtain ⟨a, e1, e2, e3⟩ := h1
      have hb : a ≠ p := fun z => by subst z; have := (o.gb a e2).1; rw [upd_same] at this; cases this
      exact ⟨a, e1, e2, by rw [upd_ne hb]; exact e3⟩
    | z => first | exact h1 | exact h | (obtain ⟨_, _, _, e2⟩ := h1; cases e2) | cases hpi | cases hk' | cases pl
    | s t =>
      obtain ⟨a, dx, e1, e2, e3, e4, e5, e6, e7, e8⟩ := h1
      have hb : a ≠ p := fun z => by subst z; rw [upd_same] at e8; cases e8
      have hd : dx ≠ p := fun z => by subst z; rw [upd_same] at e6; cases e6
      exact ⟨a, dx, e1, e2, by rw [upd_ne hb]; exact e3, by rw [upd_ne hd]; exact e4, e5, by rw [upd_ne hd] at e6 ⊢; exact e6, e7, by rw [upd_ne hb] at e8 ⊢; exact e8⟩
  dis := o.dis
theorem Ok.unguard {p : Addr} {u : HO} (o : Ok K T β (upd G p u) S σ ρ H) (hg : G p = none) (nu : NoT u := by exact fun _ z => nomatch z) (nb : NoTb u := by exact fun _ z => nomatch z) : Ok K T β G S σ ρ H ∧ Fre β G S σ ρ p ∧ H p = some u := by
  refine ⟨⟨o.sh, (same_new hg).trans o.gh, fun b v q n => o.gs b v (by rw [upd_ne (ne_of_none q hg)]; exact q) n, fun b q => ?_, o.bx, o.len, fun i c q => ?_, o.dis⟩, ⟨o.gs p u upd_same nu, hg, fun e => ?_, fun i xs q z => ?_, fun i l q z => ?_, fun i l q z => ?_⟩, o.gh.at_ p u upd_same nb⟩
  · refine ⟨?_, (o.gb b q).2⟩
    have hb : b ≠ p := fun z => by subst z; have := (o.gb b q).1; rw [upd_same] at this; cases this
    have := (o.gb b q).1; rw [upd_ne hb] at this; exact this
  · have h1 := o.cel i c q
    cases c with
    | no => trivial
    | d x => exact h1
    | m xs =>
      obtain ⟨a, vs, e1, e2, e3, e4, e5, r⟩ := h1
      have hb : a ≠ p := fun z => by subst z; rw [upd_same] at e4; cases e4
      exact ⟨a, vs, e1, e2, e3, by rw [upd_ne hb] at e4; exact e4, e5, r⟩
    | k l =>
      obtain ⟨a, kvs, e1, e2, e3, e4, e5, ek, r⟩ := h1
      have hb : a ≠ p := fun z => by subst z; rw [upd_same] at e4; cases e4
      exact ⟨a, kvs, e1, e2, e3, by rw [upd_ne hb] at e4; exact e4, e5, ek, r⟩
    | kt l =>
      obtain ⟨a, kvs, e1, e2, e3, e4, e5, ek, r⟩ := h1
      have hb : a ≠ p := fun z => by subst z; rw [upd_same] at e4; cases e4
      exact ⟨a, kvs, e1, e2, e3, by rw [upd_ne hb] at e4; exact e4, e5, ek, r⟩
    | b ns => exact h1
    | z => first | exact h1 | exact h | (obtain ⟨_, _, _, e2⟩ := h1; cases e2) | cases hpi | cases hk' | cases pl
    | s t =>
      obtain ⟨a, dx, e1, e2, e3, e4, e5, e6, e7, e8⟩ := h1
      have hb : a ≠ p := fun z => by subst z; rw [upd_same] at e8; cases e8
      have hd : dx ≠ p := fun z => by subst z; rw [upd_same] at e6; cases e6
      exact ⟨a, dx, e1, e2, e3, e4, e5, by rw [upd_ne hd] at e6; exact e6, e7, by rw [upd_ne hb] at e8; exact e8⟩
  · have := (o.gb p e).1; rw [upd_same] at this; cases this
  · obtain ⟨a, vs, e1, e2, e3, e4, e5, r⟩ := o.cel i _ q
    rw [e1] at z; cases z; rw [upd_same] at e4; cases e4
  · obtain ⟨a, kvs, e1, e2, e3, e4, e5, ek, r⟩ := o.cel i _ q
    rw [e1] at z; cases z; rw [upd_same] at e4; cases e4
  · obtain ⟨a, kvs, e1, e2, e3, e4, e5, ek, r⟩ := o.cel i _ q
    rw [e1] at z; cases z; rw [upd_same] at e4; cases e4
end
/-- one turn: the target, the test, the element -/
def compTurn (gd : D → Rho → Option Rho) (ft : Rho → R Bool) (fe : Rho → R VD) (acc : List D) (d : D) (ρ : Rho) : R (List D) := match gd d ρ with
  | some ρ1 => (ft ρ1).bind fun k ρ2 => if k then ((fe ρ2).bind fun v ρ3 => match v with | .d y => if fits (acc.length + 1) then .ok (acc ++ [y]) ρ3 else .bad | .sl _ => .bad) else .ok acc ρ2
  | none => .bad
def compLoop (vs : List Nat) (gd : D → Rho → Option Rho) (ft : Rho → R Bool) (fe : Rho → R VD) : List D → List D → Rho → R (List D)
  | acc, [], ρ => .ok acc ρ
  | acc, d :: ds, ρ => match compTurn gd ft fe acc d ρ with
    | .ok acc1 ρ1 => compLoop vs gd ft fe acc1 ds (wipeR ρ1 vs)
    | _ => .bad
def compF (vs : List Nat) (fi : Rho → R (List D)) (gd : D → Rho → Option Rho) (ft : Rho → R Bool) (fe : Rho → R VD) : Rho → R (List D) := fun ρ => (fi ρ).bind fun ds ρ1 =>
  if vs.all (fun v => plainC (ρ1.getD v .no)) then (match compLoop vs gd ft fe [] ds (wipeR ρ1 vs) with
    | .ok acc ρ2 => .ok acc (backR ρ1 ρ2 vs)
    | _ => .bad) else .bad
def W0 : WX := fun _ _ _ _ => False
/-- a target that sets nothing but the slots vs, told of the slots themselves -/
def rGo (K : PySem.W.Frag) (T : Tb) (vs : List Nat) (gd : D → Rho → Option Rho) : TG := fun v σ H Q => ∃ β G S ρ x, Ok K T β G S σ ρ H ∧ Rp K T S x v ∧ match gd x ρ with
  | some ρ' => ∀ σ', Ok K T β G S σ' ρ' H → L2.wipe σ' vs = L2.wipe σ vs → Q σ' H
  | none => False
def XGo (X : Cx) (T : Tb) (vs : List Nat) (tg : Expr) (gd : D → Rho → Option Rho) : Prop := PG X tg (rGo X.K T vs gd)
theorem wipe_set {σ : L2.St} {i : Nat} {v : Option V} : ∀ {vs : List Nat}, i ∈ vs → L2.wipe (σ.set i v) vs = L2.wipe σ vs := fun {vs} hi => by
  apply List.ext_getElem?
  intro j
  by_cases hj : j ∈ vs
  · by_cases hl : j < σ.length
    · rw [wipe_in hj hl, wipe_in hj (by rw [List.length_set]; exact hl)]
    · rw [List.getElem?_eq_none (by rw [wipe_length, List.length_set]; omega), List.getElem?_eq_none (by rw [wipe_length]; omega)]
  · rw [wipe_out' hj, wipe_out' hj, List.getElem?_set_ne (fun z => hj (by rw [← z]; exact hi))]
section
variable {X : Cx} {T : Tb} {W : WX} {e elt tg iter : Expr} {es ifs : List Expr} {fi : Rho → R (List D)} {gd : D → Rho → Option Rho} {ft : Rho → R Bool} {fe : Rho → R VD} {pos : Pos} {vs : List Nat}
theorem xgo_name (i : Nat) {x : Str} (hN : X.N.Nodup) (hv : i ∈ vs := by decide) (hi : X.N[i]? = some x := by rfl) (hx : Loc X.env.scope x := by first | exact Or.inl rfl | exact Or.inr rfl) (hf : X.fn x = true ∨ X.env.scope.names.lookup x = some .local := by first | exact .inl rfl | exact .inr rfl) : XGo X T vs (.Name x pos) (nameG i) :=
  (pg_name hN hi hx hf).impQ fun v σ H Q q => by
    obtain ⟨β, G, S, ρ, x, o, r, p⟩ := q
    exact p _ (o.setD r) (wipe_set hv)
def rGos (K : PySem.W.Frag) (T : Tb) (vs : List Nat) (gd : List D → Rho → Option Rho) : TGs := fun us σ H Q => ∃ β G S ρ xs, Ok K T β G S σ ρ H ∧ Rps K T S xs us ∧ match gd xs ρ with
  | some ρ' => ∀ σ', Ok K T β G S σ' ρ' H → L2.wipe σ' vs = L2.wipe σ vs → Q σ' H
  | none => False
def XGos (X : Cx) (T : Tb) (vs : List Nat) (tg : List Expr) (gd : List D → Rho → Option Rho) : Prop := PGs X tg (rGos X.K T vs gd)
theorem xgos_nil : XGos X T vs [] nilG := pgs_nil.impQ fun us σ H Q q => by
  obtain ⟨β, G, S, ρ, xs, o, r, p⟩ := q
  unfold nilG at p
  split at p
  · rename_i ρ' e
    split at e
    · cases e; exact ⟨r, p σ o rfl⟩
    · cases e
  · exact p.elim
theorem xgos_cons {gds : List D → Rho → Option Rho} (h1 : XGo X T vs e gd) (h2 : XGos X T vs es gds) (hs : (assignEach (e :: es) X.env).map (·.2) = assign e X.env :: (assignEach es X.env).map (·.2) := by rfl) : XGos X T vs (e :: es) (consG gd gds) :=
  (pgs_cons h1 h2 hs).impQ fun us σ H Q q => by
    obtain ⟨β, G, S, ρ, xs, o, r, p⟩ := q
    unfold consG at p
    cases xs with
    | nil => exact p.elim
    | cons x xr =>
      obtain ⟨v, vr, e1, rx, rr⟩ := r
      refine ⟨v, vr, e1, β, G, S, ρ, x, o, rx, ?_⟩
      dsimp only at p
      cases q1 : gd x ρ with
      | none => rw [q1] at p; exact p.elim
      | some ρ1 =>
        rw [q1] at p
        dsimp only at p ⊢
        refine fun σ1 o1 ew => ⟨β, G, S, ρ1, xr, o1, rr, ?_⟩
        cases q2 : gds xr ρ1 with
        | none => rw [q2] at p; exact p.elim
        | some ρ2 => rw [q2] at p; exact fun σ2 o2 ew2 => p σ2 o2 (ew2.trans ew)
theorem xgo_tup {k n : Nat} {gds : List D → Rho → Option Rho} (hc : X.calm = true) (h : XGos X T vs es gds) (hn : (assignEach es X.env).length = n := by rfl) (hst : (assignEach es X.env).findIdx? (·.1) = none := by rfl) : XGo X T vs (.Tuple es k pos) (tupG n gds) :=
  ((pg_tup hc h hn hst).orQ (pg_unl hc h hn hst)).impQ fun v σ H Q q => by
    obtain ⟨β, G, S, ρ, x, o, r, p⟩ := q
    unfold tupG at p
    cases x with
    | tup xs =>
      obtain ⟨a, us, e1, q, rr⟩ := r
      dsimp only at p
      by_cases hl : xs.length = n
      · rw [if_pos hl] at p
        exact .inl ⟨a, us, e1, same_tup o.sh q, rr.len.trans hl, β, G, S, ρ, xs, o, rr, p⟩
      · rw [if_neg hl] at p; exact p.elim
    | lst xs =>
      obtain ⟨a, us, e1, q, rr⟩ := r
      dsimp only at p
      by_cases hl : xs.length = n
      · rw [if_pos hl] at p
        exact .inr ⟨a, us, e1, SqL.of (o.sh _ _ q), rr.len.trans hl, β, G, S, ρ, xs, o, rr, p⟩
      · rw [if_neg hl] at p; exact p.elim
    | _ => exact p.elim
def XTs (X : Cx) (T : Tb) (W : WX) (ifs : List Expr) (f : Rho → R Bool) : Prop := PTs X ifs (rT X.K T W f)
def yesT : Rho → R Bool := fun ρ => .ok true ρ
theorem xts_nil : XTs X T W [] yesT := ⟨fun pins s σ H Q I h => pts_nil.run pins s σ H Q I (by
  obtain ⟨β, G, S, ρ, o, p⟩ := h
  exact p S H true (Same.refl _) o rfl)⟩
theorem xts_one (h : XT X T W e ft) : XTs X T W [e] ft := pts_one h
theorem tLc_of {K : PySem.W.Frag} {σ : L2.St} {H : Hp} {Q : VK} (h : rF K T W (compF vs fi gd ft fe) σ H Q) : tLc (rI K T W fi) (rGo K T vs gd) (rT K T W0 ft) (rE K T W0 fe) vs σ H Q := by
  obtain ⟨β, G, S, ρ, o, p⟩ := h
  refine ⟨β, G, S, ρ, o, ?_⟩
  unfold compF at p
  revert p
  cases fi ρ with
  | bad => exact fun p => p
  | err x ρ1 => exact fun p => p
  | ok ds ρ1 =>
    intro p S1 H1 J e1 o1 wk p0 hp0
    dsimp only [R.bind] at p
    split at p
    case isFalse => exact p.elim
    case isTrue hpl =>
    have hpl' : ∀ v ∈ vs, plainC (ρ1.getD v .no) = true := fun v hv => List.all_eq_true.mp hpl v hv
    have hG0 : G p0 = none := o1.gh.free hp0
    refine ⟨fun i m H' => m = ds.length - i ∧ i ≤ ds.length ∧ ∃ S2 ρ2 acc us, Same S1 S2 ∧ Ok K T β (upd G p0 (.lst us)) S2 (L2.wipe σ vs) ρ2 H' ∧ Rps K T S2 acc us ∧
        (match compLoop vs gd ft fe acc (ds.drop i) ρ2 with | .ok a ρe => PostF K T W β G S1 σ (.ok a (backR ρ1 ρe vs)) Q | _ => False),
      ⟨_, rfl, Nat.zero_le _, S1, wipeR ρ1 vs, [], [], Same.refl _, (o1.wipe vs).guard hp0, rfl, ?_⟩, ?_⟩
    · rw [List.drop_zero]
      revert p
      cases compLoop vs gd ft fe [] ds (wipeR ρ1 vs) with
      | ok a ρe => exact fun p => PostF.mono p e1
      | err x ρe => exact fun p => p
      | bad => exact fun p => p
    rintro i m H2 ⟨rfl, hi2, S2, ρ2, acc, us, e2, o2, ra, p2⟩
    by_cases hlt : i < ds.length
    · obtain ⟨hgo, hy⟩ := (wk S2 H2 e2 o2.sh i).1 ds[i] (List.getElem?_eq_getElem hlt)
      rw [List.drop_eq_getElem_cons hlt] at p2
      refine .inr ⟨hgo, fun H' => ∃ S3 ρ3 acc us, Same S1 S3 ∧ Ok K T β (upd G p0 (.lst us)) S3 (L2.wipe σ vs) ρ3 H' ∧ Rps K T S3 acc us ∧
        (match compLoop vs gd ft fe acc (ds.drop (i + 1)) ρ3 with | .ok a ρe => PostF K T W β G S1 σ (.ok a (backR ρ1 ρe vs)) Q | _ => False), ?_, ?_⟩
      · rintro H' ⟨S3, ρ3, acc3, us3, e3, o3, r3, p3⟩
        exact ⟨ds.length - (i + 1), by omega, rfl, hlt, S3, ρ3, acc3, us3, e3, o3, r3, p3⟩
      · intro x H3 hyx
        obtain ⟨S3, x3, r3⟩ := hy x H3 hyx
        have o3 := o2.ext x3
        refine ⟨β, _, S3, ρ2, ds[i], o3, r3, ?_⟩
        unfold compLoop compTurn at p2
        cases q1 : gd ds[i] ρ2 with
        | none => rw [q1] at p2; exact p2.elim
        | some ρ3 =>
          rw [q1] at p2
          dsimp only at p2 ⊢
          intro σ3 o4 ew
          have ew' : L2.wipe σ3 vs = L2.wipe σ vs := by
            rw [ew]
            apply List.ext_getElem?
            intro j
            by_cases hj : j ∈ vs
            · by_cases hl : j < σ.length
              · rw [wipe_in hj hl, wipe_in hj (by rw [wipe_length]; exact hl)]
              · rw [List.getElem?_eq_none (by rw [wipe_length, wipe_length]; omega), List.getElem?_eq_none (by rw [wipe_length]; omega)]
            · rw [wipe_out' hj]
          refine ⟨ew', β, _, S3, ρ3, o4, ?_⟩
          revert p2
          cases ft ρ3 with
          | bad => exact fun p2 => p2
          | err x ρ4 => exact fun p2 => p2.elim
          | ok k ρ4 =>
            intro p2 S4 H4 kk e4 o5 hk
            subst hk
            dsimp only [R.bind] at p2
            cases k with
            | false =>
              refine iteF ⟨S4, wipeR ρ4 vs, acc, us, (e2.trans x3.s).trans e4, ?_, Rps.mono (x3.s.trans e4) _ _ ra, p2⟩
              have := o5.wipe vs
              rw [ew'] at this; exact this
            | true =>
              refine iteT ⟨β, _, S4, ρ4, o5, ?_⟩
              rw [if_pos rfl] at p2
              revert p2
              cases fe ρ4 with
              | bad => exact fun p2 => p2
              | err x ρ5 => exact fun p2 => p2.elim
              | ok v ρ5 =>
                intro p2 S5 H5 u e5 o6 hv
                dsimp only [R.bind] at p2
                cases v with
                | sl j => exact p2.elim
                | d y =>
                  dsimp only at p2
                  by_cases hfit : fits (acc.length + 1) = true
                  case neg => rw [if_neg hfit] at p2; exact p2.elim
                  rw [if_pos hfit] at p2
                  have hH : H5 p0 = some (.lst us) := o6.gh p0 _ upd_same
                  have rall := Rps.mono (x3.s.trans (e4.trans e5)) _ _ ra
                  refine ⟨us, hH, ?_, S5, wipeR ρ5 vs, acc ++ [y], us ++ [u], ((e2.trans x3.s).trans e4).trans e5, ?_, rall.append (Rps.one hv), p2⟩
                  · rw [rall.len]; exact Nat.lt_of_succ_le (fits_line hfit)
                  · have o7 := (o6.reguard (u' := .lst (us ++ [u])) hG0).wipe vs
                    rw [ew'] at o7; exact o7
    · have e : i = ds.length := by omega
      subst e
      rw [List.drop_length] at p2
      refine .inl ⟨(wk S2 H2 e2 o2.sh _).2 rfl, ?_⟩
      obtain ⟨o3, fr, hv⟩ := o2.unguard hG0
      have ob := o1.back o3 e2 hpl'
      refine p2 S2 H2 p0 us e2 ob ⟨fr.s, fr.g, fr.b, fun j xs q z => ?_, fun j l q z => ?_, fun j l q z => ?_⟩ hv ra
      · by_cases hj : j ∈ vs
        · have hl : j < ρ2.length := by have := (List.getElem?_eq_some_iff.mp q).1; rwa [backR_len] at this
          rw [backR_in hj hl] at q
          have := hpl' j hj
          rw [Option.some.inj q] at this; cases this
        · rw [backR_out hj] at q
          exact fr.sl j xs q (by rw [wipe_out' hj]; exact z)
      · by_cases hj : j ∈ vs
        · have hl : j < ρ2.length := by have := (List.getElem?_eq_some_iff.mp q).1; rwa [backR_len] at this
          rw [backR_in hj hl] at q
          have := hpl' j hj
          rw [Option.some.inj q] at this; cases this
        · rw [backR_out hj] at q
          exact fr.sk j l q (by rw [wipe_out' hj]; exact z)
      · by_cases hj : j ∈ vs
        · have hl : j < ρ2.length := by have := (List.getElem?_eq_some_iff.mp q).1; rwa [backR_len] at this
          rw [backR_in hj hl] at q
          have := hpl' j hj
          rw [Option.some.inj q] at this; cases this
        · rw [backR_out hj] at q
          exact fr.skt j l q (by rw [wipe_out' hj]; exact z)
end
end Lq
namespace Lq
open PySem PySem.Spec PyProof.Rows L2
section
variable {X : Cx} {T : Tb} {W : WX} {e elt tg iter : Expr} {es ifs : List Expr} {fi : Rho → R (List D)} {gd : D → Rho → Option Rho} {ft : Rho → R Bool} {fe : Rho → R VD} {pos : Pos} {own : List (Str × Nat)} {scope : Scope}
theorem xf_lc (hc : X.calm = true) (hN : X.N.Nodup) (hi : XI X T W tg iter fi) (ok : BlkOk X.N X.env.scope scope own)
    (hg : ∀ (s : Shared) (H : Hp) (C : Addr) (cl : List (Str × Addr)) (fp : List Addr), XGo (X.blk s H scope (compEnvC scope cl C X.env) fp) T (own.map (·.2)) tg gd)
    (ht : ∀ (s : Shared) (H : Hp) (C : Addr) (cl : List (Str × Addr)) (fp : List Addr), XTs (X.blk s H scope (compEnvC scope cl C X.env) fp) T W0 ifs ft)
    (he : ∀ (s : Shared) (H : Hp) (C : Addr) (cl : List (Str × Addr)) (fp : List Addr), XE (X.blk s H scope (compEnvC scope cl C X.env) fp) T W0 elt fe) (hs : ∀ x, foldedSetIterable iter X.env x = pure x := by intro _; rfl) :
    XF X T W (.ListComp elt [⟨tg, iter, ifs, 0⟩] scope pos) (compF (own.map (·.2)) fi gd ft fe) :=
  (pe_lc (g := rGo X.K T (own.map (fun p : Str × Nat => p.2)) gd) (tt := rT X.K T W0 ft) (te := rE X.K T W0 fe) hc hN hi ok hg ht he hs).impQ fun σ H Q h => tLc_of h
/-- y = [..] -/
theorem xs_setLc (i : Nat) {y : Str} {py spos : Pos} (hc : X.calm = true) (hN : X.N.Nodup) (hi : XI X T W tg iter fi) (ok : BlkOk X.N X.env.scope scope own)
    (hg : ∀ (s : Shared) (H : Hp) (C : Addr) (cl : List (Str × Addr)) (fp : List Addr), XGo (X.blk s H scope (compEnvC scope cl C X.env) fp) T (own.map (·.2)) tg gd)
    (ht : ∀ (s : Shared) (H : Hp) (C : Addr) (cl : List (Str × Addr)) (fp : List Addr), XTs (X.blk s H scope (compEnvC scope cl C X.env) fp) T W0 ifs ft)
    (he : ∀ (s : Shared) (H : Hp) (C : Addr) (cl : List (Str × Addr)) (fp : List Addr), XE (X.blk s H scope (compEnvC scope cl C X.env) fp) T W0 elt fe)
    (hsw : swapsWith (.ListComp elt [⟨tg, iter, ifs, 0⟩] scope pos) (some (.Name y py)) spos.line X.env = pure true)
    (hy : X.N[i]? = some y := by rfl) (hyl : X.env.scope.names.lookup y = some .local := by rfl) (hs : ∀ x, foldedSetIterable iter X.env x = pure x := by intro _; rfl) :
    XS X T W (.Assign [.Name y py] (.ListComp elt [⟨tg, iter, ifs, 0⟩] scope pos) spos) (asgS i (frzE (compF (own.map (·.2)) fi gd ft fe))) :=
  (ps_setLc (g := rGo X.K T (own.map (fun p : Str × Nat => p.2)) gd) (tt := rT X.K T W0 ft) (te := rE X.K T W0 fe) hc hN hy hyl hsw hi ok hg ht he hs).impQ fun De σ H q => by
    obtain ⟨β, G, S, ρ, o, p⟩ := q
    refine tLc_of ⟨β, G, S, ρ, o, ?_⟩
    unfold asgS frzE at p
    revert p
    cases compF (own.map (·.2)) fi gd ft fe ρ with
    | bad => exact fun p => p
    | err x ρ1 => exact fun p S1 H1 c d e o q => p S1 σ H1 c d e o q
    | ok ds ρ1 => exact fun p S1 H1 q vs e o' fr hv r => p (upd S1 q (.lst vs)) _ H1 (e.trans (same_new fr.s)) ((o'.freeze fr hv).setD ⟨q, vs, rfl, upd_same, Rps.mono (same_new fr.s) _ _ r⟩)
end
/-! ### defs -/
def GvR (K : PySem.W.Frag) (T : Tb) (S H : Hp) (r : Res) (Q : VK) (E : XK) : Prop := match r with
  | .ok d => Gv K T S H d Q
  | .err x => ∀ S' H' c d, Ext T S H S' H' → XR K T S' x c d → E c d H'
  | .bad => False
/-- a def over plain data: n arguments -/
def spP (K : PySem.W.Frag) (T : Tb) (n : Nat) (F : List D → Res) : Sp := fun vs H Q E => ∃ S ds, SameT T S H ∧ Rps K T S ds vs ∧ ds.length = n ∧ GvR K T S H (F ds) Q E
def startR (n : Nat) (ds : List D) : Rho := ds.map .d ++ List.replicate (n - ds.length) .no
def runF (a n : Nat) (f : Rho → O) (ds : List D) : Res := if ds.length = a then (match f (startR n ds) with
  | .nx _ => .ok .non
  | .rt v ρ => (match v with
    | .d x => .ok x
    | .sl i => (match ρ[i]? with | some (.m xs) => .ok (.lst xs) | _ => .bad))
  | .rf ds _ => .ok (.lst ds)
  | .err x _ => .err x
  | _ => .bad) else .bad
theorem runF_len {a n : Nat} {f : Rho → O} (ds : List D) (h : runF a n f ds ≠ .bad) : ds.length = a := by
  unfold runF at h
  split at h
  · assumption
  · exact (h rfl).elim
section
variable {K : PySem.W.Frag} {T : Tb} {S S' H : Hp}
theorem start_cell : ∀ {ds : List D} {vs : List V} {n k i : Nat} {c : Cell}, Rps K T S ds vs → (ds.map Cell.d ++ List.replicate k .no)[i]? = some c → ∀ {β : Bt} {G : Hp}, CellOk K T β G S H (vs.map some ++ List.replicate n none)[i]? c
  | [], vs, n, k, i, c, h, e, β, G => by
    have hc : c = .no := by
      simp only [List.map_nil, List.nil_append] at e
      exact (List.mem_replicate.mp (List.mem_of_getElem? e)).2
    subst hc; trivial
  | d :: ds, vs, n, k, 0, c, ⟨v, r, e1, h, hs⟩, e, β, G => by
    simp at e; subst e; rw [e1]; exact ⟨v, rfl, h⟩
  | d :: ds, vs, n, k, i + 1, c, ⟨v, r, e1, h, hs⟩, e, β, G => by
    rw [e1]
    have := start_cell (n := n) (k := k) (i := i) (c := c) hs (by simpa using e) (β := β) (G := G)
    simpa using this
theorem start_noM {ds : List D} {k i : Nat} {xs : List D} (h : (ds.map Cell.d ++ List.replicate k .no)[i]? = some (.m xs)) : False := by
  have hm := List.mem_of_getElem? h
  rcases List.mem_append.mp hm with h1 | h1
  · obtain ⟨d, _, e⟩ := List.mem_map.mp h1; cases e
  · have := (List.mem_replicate.mp h1).2; cases this
/-- what stands beside S in H -/
def besides (S H : Hp) : Hp := fun b => match S b with | some _ => none | none => H b
theorem besides_same {S H : Hp} : Same (besides S H) H := .of fun b o e => by
  unfold besides at e
  split at e
  · cases e
  · exact e
theorem besides_apart {S H : Hp} {b : Addr} {o : HO} (e : besides S H b = some o) : S b = none := by
  unfold besides at e
  split at e
  · cases e
  · assumption
theorem besides_of {S H : Hp} {b : Addr} {o : HO} (e : H b = some o) (n : S b = none) : besides S H b = some o := by
  unfold besides; rw [n]; exact e
theorem ext_of {T : Tb} {S H S' H' : Hp} (h0 : SameT T S H) (e : Same S S') (sh : SameT T S' H') (gh : Same (besides S H) H') (gs : ∀ b o, besides S H b = some o → NoT o → S' b = none) : Ext T S H S' H' where
  s := e
  h := ⟨fun b o q n => by
    cases z : S b with
    | none => exact gh.at_ b o (besides_of q z) n
    | some u =>
      have nu : NoTb u := fun ps w => by
        subst w
        obtain ⟨qs, w⟩ := h0.tb b ps z
        rw [q] at w; cases w; exact n qs rfl
      have := h0.at_ b u z nu; rw [q] at this; cases this; exact sh.at_ b _ (e.at_ b _ z n) n, fun b ps q => by
    cases z : S b with
    | none => exact gh.tb b ps (besides_of q z)
    | some u =>
      by_cases nu : ∃ qs, u = .tbl qs
      · obtain ⟨qs, rfl⟩ := nu
        obtain ⟨rs, w⟩ := e.tb b qs z
        exact sh.tb b rs w
      · have := h0.at_ b u z fun qs w => nu ⟨qs, w⟩
        rw [q] at this; cases this; exact (nu ⟨ps, rfl⟩).elim⟩
  sh := sh
  fr := fun b o q n z => gs b o (besides_of q z) n
end
section
variable {P : Program} {w : World} {K : PySem.W.Frag} {mg : Str → Option Value} {base : Heap} {T : Tb}
/-- THE RULE for a def over plain data -/
theorem fn_pure {x qual : Str} {st : Stmt} {f : Addr} {fd : FuncData} {N ps : List Str} {k : Nat} {g : Rho → O} (F : Fun K x qual st f fd) (Sc : FnScope N ps (defScope st)) (hlen : ps.length ≤ N.length)
    (hbody : ∀ (cdv : Value) (A : Around) (outer : List PySem.Env) (s : Shared) (H : Hp) (E : XK), Room k (A.deeper (envOfC qual (defScope st) s.heap.objs.size f cdv)) →
      Takes (cxOf (L2.CX P w) P w K mg base N qual (defScope st) f cdv A outer s H E) (fun c d _ H' => E c d H') →
      PassesOwn (model P w) (cxOf (L2.CX P w) P w K mg base N qual (defScope st) f cdv A outer s H E).A (cxOf (L2.CX P w) P w K mg base N qual (defScope st) f cdv A outer s H E).env (cxOf (L2.CX P w) P w K mg base N qual (defScope st) f cdv A outer s H E).xe →
      XB (cxOf (L2.CX P w) P w K mg base N qual (defScope st) f cdv A outer s H E) T (fun c d _ H' => E c d H') (defBody st) g) :
    FnOk P w K mg base (L2.CX P w) (k + 1) f fd ps (spP K T ps.length (runF ps.length N.length g)) := by
  refine F.okX Sc (fun vs H Q E h => ?_) (fun cdv A outer s H vs Q E hr h => ?_)
  · obtain ⟨S, ds, e, r, hl, _⟩ := h
    rw [r.len, hl]
  · obtain ⟨S, ds, e, r, hl, p⟩ := h
    refine ⟨_, hbody cdv A outer s H E hr (takes_of rfl rfl rfl rfl) (passes_of rfl), .no, besides S H, S, startR N.length ds, ?_, ?_⟩
    · refine ⟨e, besides_same, fun b o q _ => besides_apart q, fun b q => (nomatch q), fun b q => (nomatch q), ?_, fun i c q => start_cell r q, fun i j xs ys q => (start_noM q).elim⟩
      unfold L2.start startR
      rw [List.length_append, List.length_append, List.length_map, List.length_map, List.length_replicate, List.length_replicate, r.len]
    · have fin : ∀ {S' σ' ρ' H'}, Same S S' → Ok K T .no (besides S H) S' σ' ρ' H' → Ext T S H S' H' := fun e1 o => ext_of e e1 o.sh o.gh o.gs
      unfold runF at p
      rw [if_pos hl] at p
      revert p
      cases g (startR N.length ds) with
      | nx ρ' => exact fun p S' σ' H' e1 o => p S' H' .non (fin e1 o) rfl
      | rt v ρ' =>
        intro p S' σ' H' u e1 o hv
        cases v with
        | d x => exact p S' H' u (fin e1 o) hv
        | sl i =>
          dsimp only at p
          split at p
          · rename_i xs q
            obtain ⟨a, vs', e2, e3, e4, r', o2⟩ := o.frzSlot q
            have : σ'[i]? = some (some u) := hv
            rw [e2] at this; cases this
            exact p _ H' (.ref a) (fin (e1.trans (same_new e4)) o2) ⟨a, vs', rfl, upd_same, Rps.mono (same_new e4) _ _ r'⟩
          · exact p.elim
      | err x ρ' => exact fun p S' σ' H' c d e1 o hx => p S' H' c d (fin e1 o) hx
      | rf ds' ρ' => exact fun p S' σ' H' a vs' e1 o fr hv r' => p _ H' (.ref a) (fin (e1.trans (same_new fr.s)) (o.freeze fr hv)) ⟨a, vs', rfl, upd_same, Rps.mono (same_new fr.s) _ _ r'⟩
      | bk ρ' => exact fun p => p.elim
      | ct ρ' => exact fun p => p.elim
      | bad => exact fun p => p.elim
end
theorem fn_bad {P : Program} {w : World} {K : PySem.W.Frag} {mg : Str → Option Value} {base : Heap} {T : Tb} {x qual : Str} {st : Stmt} {f : Addr} {fd : FuncData} {N ps : List Str} {k : Nat} (F : Fun K x qual st f fd) (Sc : FnScope N ps (defScope st)) :
    FnOk P w K mg base (L2.CX P w) (k + 1) f fd ps (spP K T ps.length (fun _ => .bad)) := by
  refine F.okX Sc (fun vs H Q E h => ?_) (fun cdv A outer s H vs Q E hr h => ?_)
  · obtain ⟨S, ds, e, r, hl, p⟩ := h
    exact p.elim
  · obtain ⟨S, ds, e, r, hl, p⟩ := h
    exact p.elim
/-! ### calls -/
def D.flat : D → Bool
  | .non => true
  | .bl _ => true
  | .int _ => true
  | .str _ => true
  | _ => false
def slotted : List VD → Bool
  | [] => false
  | .d _ :: vs => slotted vs
  | .sl _ :: _ => true
mutual
/-- no list in it, at any depth -/
def D.noL : D → Bool
  | .lst _ => false
  | .scr _ => false
  | .tup xs => noLs xs
  | .obj _ xs => noLs xs
  | _ => true
def noLs : List D → Bool
  | [] => true
  | d :: ds => d.noL && noLs ds
end
/-- the slots' own lists among some values become plain data -/
def frzAll : List VD → Rho → Option Rho
  | [], ρ => some ρ
  | .d _ :: vs, ρ => frzAll vs ρ
  | .sl i :: vs, ρ => match ρ[i]? with
    | some (.m xs) => frzAll vs (ρ.set i (.d (.lst xs)))
    | _ => none
def callE (F : List D → Res) (fs : Rho → R (List VD)) : Rho → R VD := fun ρ => (fs ρ).bind fun vs ρ1 => match resAll vs ρ1 with
  | some ds => (match F ds with
    | .ok d => if slotted vs && !d.noL then (match frzAll vs ρ1 with | some ρ2 => .ok (.d d) ρ2 | none => .bad) else .ok (.d d) ρ1
    | .err x => if slotted vs && !(noLs x.fs) then .bad else .err x ρ1
    | .bad => .bad)
  | none => .bad
section
variable {K : PySem.W.Frag} {T : Tb} {W : WX} {β : Bt} {G S S' H : Hp} {σ : L2.St} {ρ : Rho}
theorem Rp.flat {d : D} {v : V} (h : d.flat = true) (r : Rp K T S d v) (S' : Hp) : Rp K T S' d v := by
  cases d with
  | lst _ => cases h
  | tup _ => cases h
  | obj _ _ => cases h
  | scr _ => cases h
  | _ => exact r
theorem Rps.flat : ∀ {ds : List D} {vs : List V}, (ds.all D.flat) = true → Rps K T S ds vs → ∀ S', Rps K T S' ds vs
  | [], _, _, r, _ => r
  | d :: ds, _, h, ⟨v, r, e1, h1, hs⟩, S' => by
    rw [List.all_cons, Bool.and_eq_true] at h
    exact ⟨v, r, e1, h1.flat h.1 S', Rps.flat h.2 hs S'⟩
/-- all of S' but lists -/
def ButL (S S' : Hp) : Prop := ∀ b o, S b = some o → (∀ vs, o ≠ .lst vs) → S' b = some o
theorem ButL.tup {a : Addr} {xs : List V} (e : ButL S S') (h : SqT K S a xs) : SqT K S' a xs := by
  rcases h with h | h
  · rcases h with h | ⟨o, h⟩
    · exact .inl (.inl (e _ _ h fun _ z => by cases z))
    · exact .inl (.inr ⟨o, e _ _ h fun _ z => by cases z⟩)
  · exact .inr h
theorem ButL.ob {t : Nat} {a : Addr} {vs : List V} (e : ButL S S') (h : OB T S t a vs) : OB T S' t a vs := by
  rcases h with ⟨h, dd, h1, h2⟩ | ⟨h, dd, h1, h2⟩ | h | ⟨h, o, kvs, h1, h2⟩ | ⟨h, o, h1, h2⟩
  · exact .inl ⟨h, dd, e _ _ h1 (fun _ z => by cases z), e _ _ h2 (fun _ z => by cases z)⟩
  · exact .inr (.inl ⟨h, dd, e _ _ h1 (fun _ z => by cases z), e _ _ h2 (fun _ z => by cases z)⟩)
  · exact .inr (.inr (.inl h))
  · exact .inr (.inr (.inr (.inl ⟨h, o, kvs, e _ _ h1 (fun _ z => by cases z), h2⟩)))
  · exact .inr (.inr (.inr (.inr ⟨h, o, e _ _ h1 (fun _ z => by cases z), h2⟩)))
mutual
theorem Rp.noL (e : ButL S S') : ∀ (d : D) (v : V), d.noL = true → Rp K T S d v → Rp K T S' d v
  | .non, _, _, h => h
  | .bl _, _, _, h => h
  | .int _, _, _, h => h
  | .str _, _, _, h => h
  | .lst _, _, n, _ => by cases n
  | .scr _, _, n, _ => by cases n
  | .tup ds, _, n, ⟨a, vs, e1, h, hs⟩ => ⟨a, vs, e1, e.tup h, Rps.noL e ds vs n hs⟩
  | .obj _ ds, _, n, ⟨a, vs, e1, h, hs⟩ => ⟨a, vs, e1, e.ob h, Rps.noL e ds vs n hs⟩
theorem Rps.noL (e : ButL S S') : ∀ (ds : List D) (vs : List V), noLs ds = true → Rps K T S ds vs → Rps K T S' ds vs
  | [], _, _, h => h
  | d :: ds, _, n, ⟨v, r, e1, h, hs⟩ => ⟨v, r, e1, Rp.noL e d v (Bool.and_eq_true_iff.1 n).1 h, Rps.noL e ds r (Bool.and_eq_true_iff.1 n).2 hs⟩
end
theorem frzAll_ne {i : Nat} {y : D} : ∀ {vs : List VD} {ρ ρ2 : Rho}, ρ[i]? = some (.d y) → frzAll vs ρ = some ρ2 → ∀ j, VD.sl j ∈ vs → j ≠ i
  | [], _, _, _, _, _, hj => by cases hj
  | .d x :: vs, ρ, ρ2, hi, h, j, hj => by
    rcases List.mem_cons.1 hj with z | hj
    · cases z
    · exact frzAll_ne hi (show frzAll vs ρ = some ρ2 from h) j hj
  | .sl k :: vs, ρ, ρ2, hi, h, j, hj => by
    unfold frzAll at h
    split at h
    · rename_i xs q
      have hk : k ≠ i := fun z => by subst z; rw [hi] at q; cases q
      rcases List.mem_cons.1 hj with z | hj
      · cases z; exact hk
      · exact frzAll_ne (ρ := ρ.set k (.d (.lst xs))) (by rw [List.getElem?_set_ne hk]; exact hi) h j hj
    · cases h
theorem resAll_out {i : Nat} {c : Cell} {ρ : Rho} : ∀ {vs : List VD}, (∀ j, VD.sl j ∈ vs → j ≠ i) → resAll vs (ρ.set i c) = resAll vs ρ
  | [], _ => rfl
  | .d x :: vs, h => by
    have := resAll_out (c := c) (ρ := ρ) (vs := vs) fun j hj => h j (List.mem_cons_of_mem _ hj)
    simp only [resAll, res, this]
  | .sl k :: vs, h => by
    have := resAll_out (c := c) (ρ := ρ) (vs := vs) fun j hj => h j (List.mem_cons_of_mem _ hj)
    have hk : k ≠ i := h k List.mem_cons_self
    simp only [resAll, res, this, List.getElem?_set_ne (Ne.symm hk)]
theorem Ok.frzAll : ∀ {vs : List VD} {us : List V} {ds : List D} {ρ ρ2 : Rho} {S : Hp}, Ok K T β G S σ ρ H → RpVs K T σ S vs us → Lq.resAll vs ρ = some ds → Lq.frzAll vs ρ = some ρ2 → ∃ S2, Same S S2 ∧ Ok K T β G S2 σ ρ2 H ∧ Rps K T S2 ds us
  | [], us, ds, ρ, ρ2, S, o, h, e, f => by
    simp only [Lq.resAll, Option.some.injEq] at e
    simp only [Lq.frzAll, Option.some.injEq] at f
    subst e; subst f
    exact ⟨S, Same.refl _, o, h⟩
  | .d x :: vs, us, ds, ρ, ρ2, S, o, ⟨u, r, e1, h, h2⟩, e, f => by
    simp only [Lq.resAll, Lq.res] at e
    split at e
    · rename_i a b q1 q2
      cases q1
      cases e
      obtain ⟨S2, s2, o2, r2⟩ := Ok.frzAll o h2 q2 (show Lq.frzAll vs ρ = some ρ2 from f)
      exact ⟨S2, s2, o2, u, r, e1, Rp.mono s2 _ _ h, r2⟩
    · cases e
  | .sl i :: vs, us, ds, ρ, ρ2, S, o, ⟨u, r, e1, h, h2⟩, e, f => by
    unfold Lq.frzAll at f
    split at f
    · rename_i xs q
      obtain ⟨a, ws, e2, e3, e4, r5, o2⟩ := o.frzSlot q
      have hu : σ[i]? = some (some u) := h
      rw [e2] at hu; cases hu
      have hl : i < ρ.length := (List.getElem?_eq_some_iff.mp q).1
      have hne := frzAll_ne (i := i) (y := .lst xs) (ρ := ρ.set i (.d (.lst xs))) (List.getElem?_set_self hl) f
      simp only [Lq.resAll, Lq.res, q] at e
      split at e
      · rename_i a' b q1 q2
        cases q1
        cases e
        obtain ⟨S2, s2, o3, r3⟩ := Ok.frzAll o2 (RpVs.mono (same_new e4) h2) ((resAll_out hne).trans q2) f
        exact ⟨S2, (same_new e4).trans s2, o3, .ref a, r, e1, ⟨a, ws, rfl, s2 _ _ upd_same, Rps.mono ((same_new e4).trans s2) _ _ r5⟩, r3⟩
      · cases e
    · cases f
theorem unslot : ∀ {vs : List VD} {us : List V} {ds : List D}, slotted vs = false → RpVs K T σ S vs us → resAll vs ρ = some ds → Rps K T S ds us
  | [], _, _, _, h, e => by simp only [resAll, Option.some.injEq] at e; subst e; exact h
  | .d x :: vs, _, _, hs, ⟨u, r, e1, h, h2⟩, e => by
    simp only [resAll, res] at e
    split at e
    · rename_i a b q1 q2
      cases q1
      cases e
      exact ⟨u, r, e1, h, unslot (show slotted vs = false from hs) h2 q2⟩
    · cases e
  | .sl _ :: _, _, _, hs, _, _ => by cases hs
/-- S with the slots' own lists -/
def withSlots (S H : Hp) (us : List V) : Hp := fun b => match S b with
  | some o => some o
  | none => if V.ref b ∈ us then (match H b with | some (.lst vs) => some (.lst vs) | _ => none) else none
theorem ws_same {us : List V} : Same S (withSlots S H us) := .of fun b o e => by unfold withSlots; rw [e]
theorem ws_sub {us : List V} (e : SameT T S H) : SameT T (withSlots S H us) H := e.step (Keep.refl _) fun b o q => by
  unfold withSlots at q
  split at q
  · rename_i u z
    cases q; exact .inr ⟨z, rfl⟩
  · split at q
    · split at q
      · rename_i vs z; cases q; exact .inl z
      · cases q
    · cases q
theorem withSlots_rps {us0 : List V} (o : Ok K T β G S σ ρ H) : ∀ {vs : List VD} {us : List V} {ds : List D}, (∀ u ∈ us, u ∈ us0) → RpVs K T σ S vs us → resAll vs ρ = some ds → Rps K T (withSlots S H us0) ds us
  | [], _, _, _, h, e => by simp only [resAll, Option.some.injEq] at e; subst e; exact h
  | v :: vs, _, _, hm, ⟨u, r, e1, h, h2⟩, e => by
    simp only [resAll] at e
    split at e
    · rename_i a b q1 q2
      cases e
      refine ⟨u, r, e1, ?_, withSlots_rps o (fun z hz => hm z (by rw [e1]; exact List.mem_cons_of_mem _ hz)) h2 q2⟩
      have hu : u ∈ us0 := hm u (by rw [e1]; exact List.mem_cons_self)
      rcases o.res h q1 with h3 | ⟨p, ws, xs, e3, e4, e5, r5⟩
      · exact Rp.mono ws_same _ _ h3
      · subst e3; subst e4
        refine ⟨p, ws, rfl, ?_, Rps.mono ws_same _ _ r5⟩
        unfold withSlots
        split
        · rename_i o' z
          have := o.sh.eq z e5
          subst this; rfl
        · rw [if_pos hu, e5]
    · cases e
/-- behind a call that was given slots: they are slots again -/
theorem ext_back {us : List V} {S' H' : Hp} (h0 : SameT T S H) (e : Ext T (withSlots S H us) H S' H') : Ext T S H (fun b => match S b, withSlots S H us b with | none, some _ => none | _, _ => S' b) H' where
  s := (ws_same.trans e.s).step fun b o q => .inr ⟨q, by
    show (match S b, withSlots S H us b with | none, some _ => none | _, _ => S' b) = S' b
    rw [q]⟩
  h := e.h
  sh := e.sh.step (Keep.refl _) fun b o q => by
    have q' : (match S b, withSlots S H us b with | none, some _ => none | _, _ => S' b) = some o := q
    split at q'
    · cases q'
    · exact .inr ⟨q', rfl⟩
  fr := fun b o q nt z => by
    show (match S b, withSlots S H us b with | none, some _ => none | _, _ => S' b) = none
    rw [z]
    cases y : withSlots S H us b with
    | none => exact e.fr b o q nt y
    | some u => rfl
theorem ws_lst {us : List V} {b : Addr} {o : HO} (z : S b = none) (y : withSlots S H us b = some o) : NoTb o := by
  unfold withSlots at y
  rw [z] at y
  simp only at y
  split at y
  · split at y
    · cases y; exact fun _ w => nomatch w
    · cases y
  · cases y
theorem ext_butL {us : List V} {S' H' : Hp} (e : Ext T (withSlots S H us) H S' H') : ButL S' (fun b => match S b, withSlots S H us b with | none, some _ => none | _, _ => S' b) := fun b o q n => by
  show (match S b, withSlots S H us b with | none, some _ => none | _, _ => S' b) = some o
  split
  · rename_i o' z y
    have z2 := e.s.at_ b o' y (ws_lst z y)
    rw [q] at z2
    cases z2
    unfold withSlots at y
    rw [z] at y
    dsimp only at y
    split at y
    · split at y
      · cases y; exact (n _ rfl).elim
      · cases y
    · cases y
  · exact q
end
section
variable {X : Cx} {T : Tb} {W : WX} {e : Expr} {es : List Expr} {fs : Rho → R (List VD)} {pos : Pos}
theorem call_of {K : PySem.W.Frag} {F : List D → Res} {n : Nat} {σ : L2.St} {H : Hp} {Q : VK} (hn : ∀ ds, F ds ≠ .bad → ds.length = n) (h : rE K T W (callE F fs) σ H Q) : tCallS (spP K T n F) (WE W) (rA K T W fs) σ H Q := by
  obtain ⟨β, G, S, ρ, o, p⟩ := h
  refine ⟨β, G, S, ρ, o, Post.thn (Rl := RpVs K T σ) p fun S1 H1 ρ1 vs us e1 o1 h1 p1 => ?_⟩
  split at p1
  case h_2 => exact p1.elim
  case h_1 ds q =>
  cases hs : slotted vs with
  | false =>
    refine ⟨S1, ds, o1.sh, unslot hs h1 q, hn ds (fun z => by rw [z] at p1; exact p1), ?_⟩
    rw [hs] at p1
    revert p1
    cases F ds with
    | ok d => exact fun p1 => p1.gv o1
    | err x => exact fun p1 S2 H2 c d e2 hx => p1 S2 H2 c d e2.s (o1.ext e2) hx
    | bad => exact fun p1 => p1
  | true =>
    have hb : ds.length = n := hn ds (fun z => by rw [z] at p1; exact p1)
    rw [hs] at p1
    revert p1
    cases hF : F ds with
    | ok d =>
      intro p1
      dsimp only at p1
      cases hL : d.noL with
      | false =>
        rw [hL] at p1
        simp only [Bool.not_false, Bool.and_self, if_true] at p1
        split at p1
        · rename_i ρ2 f
          obtain ⟨S2, s2, o2, r2⟩ := Ok.frzAll o1 h1 q f
          refine ⟨S2, ds, o2.sh, r2, hb, ?_⟩
          rw [hF]
          exact (p1.mono s2).gv o2
        · exact p1.elim
      | true =>
        rw [hL] at p1
        refine ⟨withSlots S1 H1 us, ds, ws_sub o1.sh, withSlots_rps o1 (fun _ hz => hz) h1 q, hb, ?_⟩
        rw [hF]
        intro S2 H2 v e2 r2
        have e3 := ext_back o1.sh e2
        exact p1 _ H2 v e3.s (o1.ext e3) (Rp.noL (ext_butL e2) _ _ hL r2)
    | err x =>
      intro p1
      dsimp only at p1
      cases hL : noLs x.fs with
      | false =>
        rw [hL] at p1
        exact p1.elim
      | true =>
        rw [hL] at p1
        refine ⟨withSlots S1 H1 us, ds, ws_sub o1.sh, withSlots_rps o1 (fun _ hz => hz) h1 q, hb, ?_⟩
        rw [hF]
        intro S2 H2 c d e2 hx
        have e3 := ext_back o1.sh e2
        obtain ⟨h3, dd, ws, h4, h5, h6⟩ := hx
        exact p1 _ H2 c d e3.s (o1.ext e3) ⟨h3, dd, ws, h4, ext_butL e2 _ _ h5 (fun _ z => by cases z), Rps.noL (ext_butL e2) _ _ hL h6⟩
    | bad => exact fun p1 => p1.elim
/-- f(e, ..) -/
theorem xe_call {F : List D → Res} {k : Nat} {f : Addr} {fd : FuncData} {ps : List Str} {n : Nat} {x : Str} {p : Pos} (Fk : FnOk X.prog X.w X.K X.mg X.base (L2.CX X.prog X.w) k f fd ps (spP X.K T n F)) (hr : Room k X.A) (hm : X.mg x = some (.ref f)) (hk : PySem.W.keepIn X.K (.ref f) = true) (hb : Binds X.K fd ps [])
    (tk : Takes X W) (hn : ∀ ds, F ds ≠ .bad → ds.length = n) (ha : XA X T W (e :: es) fs) (hg : L2.Gl X x := by rfl) (hdb : (x == ("__debug__" : Str)) = false := by decide) (he : starEach (e :: es) X.env = (false, eval e X.env) :: starEach es X.env := by rfl) (hpl : (backTo pos (starEach es X.env)).any (·.1) = false := by rfl) :
    XE X T W (.Call (.Name x p) (e :: es) [] pos) (callE F fs) :=
  (pe_callS Fk hr hg hm hk hb (fun σ => passAt tk σ) ha hdb he hpl).impQ fun _ _ _ h => call_of hn h
end
end Lq
namespace Lq
open PySem PySem.Spec PyProof.Rows L2
/-! ### operations over data -/
def addD : D → D → Option D
  | .int i, .int j => some (.int (i + j))
  | .str a, .str b => if fits (a.length + b.length) then some (.str (a ++ b)) else none
  | .lst xs, .lst ys => if fits (xs.length + ys.length) then some (.lst (xs ++ ys)) else none
  | .tup xs, .tup ys => if fits (xs.length + ys.length) then some (.tup (xs ++ ys)) else none
  | _, _ => none
def catF : D → D → Option (List D)
  | .lst xs, .lst ys => if fits (xs.length + ys.length) then some (xs ++ ys) else none
  | _, _ => none
def subD : D → D → Option D
  | .int i, .int j => some (.int (i - j))
  | _, _ => none
def big (i : Int) : Bool := Nat.ble i.natAbs 18446744073709551615
def mulD : D → D → Option D
  | .int i, .int j => if big i || big j then some (.int (i * j)) else none
  | .lst xs, .int k => if decide (0 ≤ k) && (decide (k ≤ 1000) && decide (xs.length ≤ 1000)) then some (.lst (List.replicate k.toNat xs).flatten) else none
  | .tup xs, .int k => if !xs.isEmpty && (decide (2 ≤ k) && (decide (k ≤ 1000) && decide (xs.length ≤ 1000))) then some (.tup (List.replicate k.toNat xs).flatten) else none
  | .str x, .int k => if decide (2 ≤ k) && (decide (k ≤ 1000) && (decide (0 < x.length) && decide (x.length ≤ 1000))) then some (.str ⟨(List.replicate k.toNat x.cps).foldl (· ++ ·) #[]⟩) else none
  | _, _ => none
def fdivD : D → D → Option D
  | .int i, .int j => if decide (0 < j) && decide (j < 1073741824) then some (.int (i / j)) else none
  | _, _ => none
def modD : D → D → Option D
  | .int i, .int j => if decide (0 < j) then some (.int (i % j)) else none
  | _, _ => none
def powD : D → D → Option D
  | .int i, .int j => if decide (0 ≤ j) && (decide (j ≤ 1000000) && decide (i.natAbs < 2 ^ 64)) then some (.int (i ^ j.toNat)) else none
  | _, _ => none
def negD : D → Option D
  | .int i => some (.int (-i))
  | _ => none
def ltD : D → D → Option D
  | .int i, .int j => some (.bl (decide (i < j)))
  | .str i, .str j => some (.bl (decide (i.cps.toList < j.cps.toList)))
  | _, _ => none
def leD : D → D → Option D
  | .int i, .int j => some (.bl (decide (i ≤ j)))
  | _, _ => none
def gtD : D → D → Option D
  | .int i, .int j => some (.bl (decide (j < i)))
  | _, _ => none
def geD : D → D → Option D
  | .int i, .int j => some (.bl (decide (j ≤ i)))
  | _, _ => none
mutual
def toPy : D → PyData
  | .non => .none
  | .bl b => .bool b
  | .int i => .int i
  | .str s => .str s
  | .lst xs => .list (toPys xs)
  | .tup xs => .tuple (toPys xs)
  | .obj _ _ => .none
  | .scr _ => .none
def toPys : List D → List PyData
  | [] => []
  | x :: xs => toPy x :: toPys xs
end
mutual
def plainD : D → Bool
  | .lst xs => plainDs xs
  | .tup xs => plainDs xs
  | .obj _ _ => false
  | .scr _ => false
  | _ => true
def plainDs : List D → Bool
  | [] => true
  | x :: xs => plainD x && plainDs xs
end
mutual
def deq : D → D → Bool
  | .non, .non => true
  | .bl a, .bl b => a == b
  | .bl a, .int j => (if a then 1 else 0) == j
  | .int i, .bl b => i == (if b then 1 else 0)
  | .int i, .int j => i == j
  | .str x, .str y => x == y
  | .lst xs, .lst ys => deqs xs ys
  | .tup xs, .tup ys => deqs xs ys
  | .obj _ _, .non => true
  | .non, .obj _ _ => true
  | .obj _ _, .obj _ _ => true
  | .scr _, .non => true
  | .non, .scr _ => true
  | .scr _, .scr _ => true
  | .obj _ _, .scr _ => true
  | .scr _, .obj _ _ => true
  | _, _ => false
def deqs : List D → List D → Bool
  | [], [] => true
  | x :: xs, y :: ys => deq x y && deqs xs ys
  | _, _ => false
end
def okQ (d : D) : Bool := plainD d && SeqAt.shaped (toPy d)
def sameKind : D → D → Bool
  | .non, .non => true
  | .bl _, .bl _ => true
  | .int _, .int _ => true
  | .str _, .str _ => true
  | _, _ => false
def eqD (x y : D) : Option D := if sameKind x y || (okQ x && okQ y) then some (.bl (deq x y)) else none
def neD (x y : D) : Option D := if sameKind x y || (okQ x && okQ y) then some (.bl (!deq x y)) else none
mutual
theorem deq_eqv : ∀ x y : D, PyData.eqv (toPy x) (toPy y) = deq x y
  | .non, y => by cases y <;> simp [toPy, PyData.eqv, deq]
  | .bl a, y => by cases y <;> simp [toPy, PyData.eqv, deq]
  | .int a, y => by cases y <;> simp [toPy, PyData.eqv, deq]
  | .str a, y => by cases y <;> simp [toPy, PyData.eqv, deq]
  | .lst xs, y => by
    cases y with
    | lst ys => simp only [toPy, PyData.eqv, deq]; exact deqs_eqv xs ys
    | _ => simp [toPy, PyData.eqv, deq]
  | .tup xs, y => by
    cases y with
    | tup ys => simp only [toPy, PyData.eqv, deq]; exact deqs_eqv xs ys
    | _ => simp [toPy, PyData.eqv, deq]
  | .obj a b, y => by cases y <;> simp [toPy, PyData.eqv, deq]
  | .scr a, y => by cases y <;> simp [toPy, PyData.eqv, deq]
theorem deqs_eqv : ∀ xs ys : List D, PyData.eqvAll (toPys xs) (toPys ys) = deqs xs ys
  | [], [] => by simp [toPys, PyData.eqvAll, deqs]
  | [], _ :: _ => by simp [toPys, PyData.eqvAll, deqs]
  | _ :: _, [] => by simp [toPys, PyData.eqvAll, deqs]
  | x :: xs, y :: ys => by simp only [toPys, PyData.eqvAll, deqs]; rw [deq_eqv x y, deqs_eqv xs ys]
end
section
variable {K : PySem.W.Frag} {T : Tb} {S H : Hp}
mutual
theorem Rp.dp (e : SameT T S H) : ∀ (d : D) (v : V), plainD d = true → Rp K T S d v → Dp K H v (toPy d)
  | .non, _, _, h => by rw [show _ = V.non from h]; exact .non
  | .bl b, _, _, h => by rw [show _ = V.bl b from h]; exact .bl b
  | .int b, _, _, h => by rw [show _ = V.int b from h]; exact .int b
  | .str b, _, _, h => by rw [show _ = V.str b from h]; exact .str b
  | .lst xs, _, hp, ⟨a, vs, e1, q, r⟩ => by rw [e1]; exact .lst (SqL.of (e _ _ q)) (Rps.dp e xs vs hp r)
  | .tup xs, _, hp, ⟨a, vs, e1, q, r⟩ => by rw [e1]; exact .tup (same_tup e q) (Rps.dp e xs vs hp r)
  | .obj _ _, _, hp, _ => by cases hp
  | .scr _, _, hp, _ => by cases hp
theorem Rps.dp (e : SameT T S H) : ∀ (ds : List D) (vs : List V), plainDs ds = true → Rps K T S ds vs → DpAll K H vs (toPys ds)
  | [], _, _, h => by rw [show _ = [] from h]; exact .nil
  | d :: ds, _, hp, ⟨v, r, e1, h, hs⟩ => by
    have hp' : (plainD d && plainDs ds) = true := hp
    rw [Bool.and_eq_true] at hp'
    rw [e1]; exact .cons (Rp.dp e d v hp'.1 h) (Rps.dp e ds r hp'.2 hs)
end
theorem RpH.dp {d : D} {v : V} (h : RpH K T S H d v) (e : SameT T S H) (hp : plainD d = true) : Dp K H v (toPy d) := by
  rcases h with h | ⟨a, vs, xs, rfl, rfl, q, r⟩
  · exact Rp.dp e d v hp h
  · exact .lst (SqL.of q) (Rps.dp e xs vs hp r)
end
section
variable {X : Cx} {T : Tb}
def rAdd4 (K : PySem.W.Frag) : R2 := fun x y H Q => rI0 (fun i j => .int (i + j)) x y H Q ∨ (∃ i j, x = .str i ∧ y = .str j ∧ i.length + j.length ≤ sizeLine ∧ Q (.str (i ++ j)) H) ∨ rCat x y H Q ∨ rCatA K x y H Q
theorem op_addA : OpR X (binaryOp .Add) (rAdd4 X.K) := op_add.or (op_add_str.or (op_cat.or op_catA))
theorem p_add {K : PySem.W.Frag} : Prim2 K T (rAdd4 K) addD := fun S H x y dx dy d Q e hx hy h g => by
  unfold addD at h
  split at h
  · cases h; exact .inl ⟨_, _, hx.int, hy.int, g.now e rfl⟩
  · split at h
    · rename_i hf; cases h; exact .inr (.inl ⟨_, _, hx.str, hy.str, fits_line hf, g.now e rfl⟩)
    · cases h
  · split at h
    · rename_i hf
      cases h
      obtain ⟨a, vs, rfl, q, r⟩ := hx.lst e
      obtain ⟨b, ws, rfl, q', r'⟩ := hy.lst e
      exact .inr (.inr (.inl ⟨a, b, vs, ws, rfl, rfl, q, q', by rw [r.len, r'.len]; exact fits_line hf, fun p hp => g.newL e (r.append r') p hp⟩))
    · cases h
  · split at h
    · rename_i hf
      cases h
      obtain ⟨a, vs, rfl, q, r⟩ := hx.tup e
      obtain ⟨b, ws, rfl, q', r'⟩ := hy.tup e
      refine .inr (.inr (.inr ⟨a, b, vs, ws, rfl, rfl, q, q', by rw [r.len, r'.len]; exact fits_line hf, fun z => ?_, fun _ z => ?_, fun _ _ p hp => g.newT e (r.append r') p hp⟩))
      · rcases hy with hy | ⟨_, _, _, _, ee, _⟩
        · refine g.now e ?_
          have hl := r.len
          rw [z] at hl
          rw [List.length_eq_zero_iff.mp hl.symm, List.nil_append]
          exact hy
        · cases ee
      · rcases hx with hx | ⟨_, _, _, _, ee, _⟩
        · refine g.now e ?_
          have hl := r'.len
          rw [z] at hl
          rw [List.length_eq_zero_iff.mp hl.symm, List.append_nil]
          exact hx
        · cases ee
    · cases h
  · cases h
theorem p_catF {K : PySem.W.Frag} : Prim2F K T rCat catF := fun S H x y dx dy d Q e hx hy h g => by
  unfold catF at h
  split at h
  · split at h
    · rename_i hf
      cases h
      obtain ⟨a, vs, rfl, q, r⟩ := hx.lst e
      obtain ⟨b, ws, rfl, q', r'⟩ := hy.lst e
      exact ⟨a, b, vs, ws, rfl, rfl, q, q', by rw [r.len, r'.len]; exact fits_line hf, fun p hp => g.new e (r.append r') p hp⟩
    · cases h
  · cases h
def rRepS : R2 := fun x y H Q => ∃ z k, x = .str z ∧ y = .int k ∧ 2 ≤ k ∧ k ≤ 1000 ∧ 0 < z.length ∧ z.length ≤ 1000 ∧ Q (.str ⟨(List.replicate k.toNat z.cps).foldl (· ++ ·) #[]⟩) H
theorem rep_size (z : Array Nat) : ∀ (n : Nat) (a : Array Nat), ((List.replicate n z).foldl (· ++ ·) a).size = a.size + z.size * n
  | 0, a => by simp
  | n + 1, a => by
    rw [List.replicate_succ, List.foldl_cons, rep_size z n, Array.size_append, Nat.mul_succ]
    omega
theorem op_repS : OpR X (binaryOp .Mult) rRepS := by
  intro pins s σ H x y v u Q I rx ry h
  obtain ⟨z, k, rfl, rfl, h2, h3, h4, h5, q⟩ := h
  obtain ⟨t, rfl⟩ := rx
  obtain ⟨t', rfl⟩ := ry
  have hz : z.length * k.toNat ≤ 1000000 := Nat.le_trans (Nat.mul_le_mul h5 (show k.toNat ≤ 1000 by omega)) (by decide)
  have hz' : (z.length : Int) * k ≤ 1000000 := by
    have e : ((k.toNat : Nat) : Int) = k := by omega
    have h7 : ((z.length * k.toNat : Nat) : Int) ≤ 1000000 := by omega
    rw [Int.natCast_mul, e] at h7; exact h7
  refine PySem.P.mul_str ?_ (fun _ _ hgt => ?_) (fun _ _ => ?_) ?_
  · rw [decide_eq_false (by omega), decide_eq_false (by omega)]; rfl
  · have h6 : (2 ^ 63 - 1 : Int) / k < z.length := hgt
    have := (Int.ediv_lt_iff_lt_mul (by omega)).mp h6
    omega
  · unfold Builtin.Str.tooLong; exact decide_eq_false (by rw [sizeLine_eq]; omega)
  · rw [if_neg (by omega), if_neg (by
      rw [Bool.or_eq_true]
      rintro (e | e)
      · have := eq_of_beq e; omega
      · have := eq_of_beq e; omega)]
    refine ⟨?_, .str _, H, I.tok _, ⟨_, rfl⟩, q⟩
    show ((List.replicate k.toNat z.cps).foldl (· ++ ·) #[]).size ≤ sizeLine
    rw [rep_size, sizeLine_eq]
    have : (#[] : Array Nat).size + z.cps.size * k.toNat = z.length * k.toNat := by simp [Str.length]
    omega
def rMul3 (K : PySem.W.Frag) : R2 := fun x y H Q => L2.rI CMul (fun i j => .int (i * j)) x y H Q ∨ rRep x y H Q ∨ rRepT K x y H Q ∨ rRepS x y H Q
theorem op_mulA : OpR X (binaryOp .Mult) (rMul3 X.K) := op_mul.or (op_rep.or (op_repT.or op_repS))
theorem Rps.rep {K : PySem.W.Frag} {S : Hp} {ds : List D} {vs : List V} (r : Rps K T S ds vs) : ∀ n : Nat, Rps K T S (List.replicate n ds).flatten (List.replicate n vs).flatten
  | 0 => rfl
  | n + 1 => by rw [List.replicate_succ, List.replicate_succ, List.flatten_cons, List.flatten_cons]; exact r.append (Rps.rep r n)
theorem p_mul {K : PySem.W.Frag} : Prim2 K T (rMul3 K) mulD := fun S H x y dx dy d Q e hx hy h g => by
  unfold mulD at h
  split at h
  · split at h
    · rename_i hb
      cases h
      refine .inl ⟨_, _, hx.int, hy.int, ?_, g.now e rfl⟩
      rw [Bool.or_eq_true] at hb
      rcases hb with hb | hb <;> (unfold big at hb; have hn := Nat.le_of_ble_eq_true hb)
      · exact .inl ⟨by omega, by omega⟩
      · exact .inr ⟨by omega, by omega⟩
    · cases h
  · split at h
    · rename_i hb
      cases h
      simp only [Bool.and_eq_true, decide_eq_true_eq] at hb
      obtain ⟨a, vs, rfl, q, r⟩ := hx.lst e
      refine .inr (.inl ⟨a, _, vs, rfl, hy.int, q, by omega, by omega, ?_, fun p hp => g.newL e (r.rep _) p hp⟩)
      rw [r.len]
      exact Nat.le_trans (Nat.mul_le_mul hb.2.2 (show _ ≤ 1000 by omega)) (by rw [sizeLine_eq]; decide)
    · cases h
  · split at h
    · rename_i hb
      cases h
      simp only [Bool.and_eq_true, decide_eq_true_eq, Bool.not_eq_true', List.isEmpty_eq_false_iff] at hb
      obtain ⟨a, vs, rfl, q, r⟩ := hx.tup e
      refine .inr (.inr (.inl ⟨a, _, vs, rfl, hy.int, q, ?_, hb.2.1, hb.2.2.1, by rw [r.len]; exact hb.2.2.2, fun p hp => g.newT e (r.rep _) p hp⟩))
      intro z
      have hl := r.len
      rw [z] at hl
      exact hb.1 (List.length_eq_zero_iff.mp hl.symm)
    · cases h
  · split at h
    · rename_i hb
      cases h
      simp only [Bool.and_eq_true, decide_eq_true_eq] at hb
      exact .inr (.inr (.inr ⟨_, _, hx.str, hy.int, hb.1, hb.2.1, hb.2.2.1, hb.2.2.2, g.now e rfl⟩))
    · cases h
  · cases h
theorem p_fdiv {K : PySem.W.Frag} : Prim2 K T (L2.rI CDiv fun i j => .int (i / j)) fdivD := fun S H x y dx dy d Q e hx hy h g => by
  unfold fdivD at h
  split at h
  · split at h
    · rename_i hb
      cases h
      rw [Bool.and_eq_true] at hb
      exact ⟨_, _, hx.int, hy.int, ⟨of_decide_eq_true hb.1, of_decide_eq_true hb.2⟩, g.now e rfl⟩
    · cases h
  · cases h
theorem p_mod {K : PySem.W.Frag} : Prim2 K T (L2.rI (fun _ j => 0 < j) fun i j => .int (i % j)) modD := fun S H x y dx dy d Q e hx hy h g => by
  unfold modD at h
  split at h
  · split at h
    · rename_i hb
      cases h
      exact ⟨_, _, hx.int, hy.int, of_decide_eq_true hb, g.now e rfl⟩
    · cases h
  · cases h
theorem p_pow {K : PySem.W.Frag} : Prim2 K T (L2.rI CPow fun i j => .int (i ^ j.toNat)) powD := fun S H x y dx dy d Q e hx hy h g => by
  unfold powD at h
  split at h
  · split at h
    · rename_i hb
      cases h
      simp only [Bool.and_eq_true] at hb
      exact ⟨_, _, hx.int, hy.int, ⟨of_decide_eq_true hb.1, of_decide_eq_true hb.2.1, of_decide_eq_true hb.2.2⟩, g.now e rfl⟩
    · cases h
  · cases h
theorem p_neg {K : PySem.W.Frag} : Prim1 K T (rU fun i => .int (-i)) negD := fun S H x dx d Q e hx h g => by
  unfold negD at h
  split at h
  · cases h; exact ⟨_, hx.int, g.now e rfl⟩
  · cases h
def rLt2 : R2 := fun x y H Q => rI0 (fun i j => .bl (decide (i < j))) x y H Q ∨ (∃ i j, x = .str i ∧ y = .str j ∧ Q (.bl (decide (i.cps.toList < j.cps.toList))) H)
theorem op_ltA : OpR X (compareOp .Lt) rLt2 := op_lt.or op_lt_str
theorem p_lt {K : PySem.W.Frag} : Prim2 K T rLt2 ltD := fun S H x y dx dy d Q e hx hy h g => by
  unfold ltD at h
  split at h
  · cases h; exact .inl ⟨_, _, hx.int, hy.int, g.now e rfl⟩
  · cases h; exact .inr ⟨_, _, hx.str, hy.str, g.now e rfl⟩
  · cases h
theorem p_gt {K : PySem.W.Frag} : Prim2 K T (rI0 fun i j => .bl (decide (j < i))) gtD := fun S H x y dx dy d Q e hx hy h g => by
  unfold gtD at h
  split at h
  · cases h; exact ⟨_, _, hx.int, hy.int, g.now e rfl⟩
  · cases h
theorem p_ge {K : PySem.W.Frag} : Prim2 K T (rI0 fun i j => .bl (decide (j ≤ i))) geD := fun S H x y dx dy d Q e hx hy h g => by
  unfold geD at h
  split at h
  · cases h; exact ⟨_, _, hx.int, hy.int, g.now e rfl⟩
  · cases h
def rEq2 (K : PySem.W.Frag) : R2 := fun x y H Q => rEq x y H Q ∨ rEqD K x y H Q
def rNe2 (K : PySem.W.Frag) : R2 := fun x y H Q => rNe x y H Q ∨ rNeD K x y H Q
theorem op_eqA (hu : X.A.units + 64 < cLine) : OpR X (compareOp .Eq) (rEq2 X.K) := op_eq.or (op_eqD hu)
theorem op_neA (hu : X.A.units + 64 < cLine) : OpR X (compareOp .NotEq) (rNe2 X.K) := op_ne.or (op_neD hu)
theorem same_kind {K : PySem.W.Frag} {S H : Hp} {x y : V} {dx dy : D} (hx : RpH K T S H dx x) (hy : RpH K T S H dy y) (h : sameKind dx dy = true) : scal x y = true ∧ decide (x = y) = deq dx dy := by
  cases dx <;> cases dy <;> first | cases h | skip
  · rw [hx.non, hy.non]; exact ⟨rfl, rfl⟩
  · rw [hx.bl, hy.bl]; exact ⟨rfl, dec_bl⟩
  · rw [hx.int, hy.int]; exact ⟨rfl, dec_int⟩
  · rw [hx.str, hy.str]; exact ⟨rfl, dec_str⟩
theorem p_eq {K : PySem.W.Frag} : Prim2 K T (rEq2 K) eqD := fun S H x y dx dy d Q e hx hy h g => by
  unfold eqD at h
  by_cases hk : sameKind dx dy = true
  · rw [hk, Bool.true_or, if_pos rfl] at h
    cases h
    obtain ⟨h1, h2⟩ := same_kind hx hy hk
    exact .inl ⟨h1, by rw [h2]; exact g.now e rfl⟩
  · rw [Bool.not_eq_true] at hk
    rw [hk, Bool.false_or] at h
    split at h
    · rename_i ho
      cases h
      unfold okQ at ho
      simp only [Bool.and_eq_true] at ho
      refine .inr ⟨_, _, hx.dp e ho.1.1, hy.dp e ho.2.1, ho.1.2, ho.2.2, ?_⟩
      rw [deq_eqv]; exact g.now e rfl
    · cases h
theorem p_ne {K : PySem.W.Frag} : Prim2 K T (rNe2 K) neD := fun S H x y dx dy d Q e hx hy h g => by
  unfold neD at h
  by_cases hk : sameKind dx dy = true
  · rw [hk, Bool.true_or, if_pos rfl] at h
    cases h
    obtain ⟨h1, h2⟩ := same_kind hx hy hk
    exact .inl ⟨h1, by rw [h2]; exact g.now e rfl⟩
  · rw [Bool.not_eq_true] at hk
    rw [hk, Bool.false_or] at h
    split at h
    · rename_i ho
      cases h
      unfold okQ at ho
      simp only [Bool.and_eq_true] at ho
      refine .inr ⟨_, _, hx.dp e ho.1.1, hy.dp e ho.2.1, ho.1.2, ho.2.2, ?_⟩
      rw [deq_eqv]; exact g.now e rfl
    · cases h
def isNon : D → Bool
  | .non => true
  | _ => false
theorem isNon_of {K : PySem.W.Frag} {S H : Hp} {x : V} {d : D} (h : RpH K T S H d x) : decide (x = .non) = isNon d := by
  rcases h with h | ⟨a, vs, xs, rfl, rfl, _⟩
  · cases d with
    | non => rw [show x = _ from h]; rfl
    | bl b => rw [show x = _ from h]; rfl
    | int b => rw [show x = _ from h]; rfl
    | str b => rw [show x = _ from h]; rfl
    | lst b => obtain ⟨a, vs, rfl, _⟩ := h; rfl
    | tup b => obtain ⟨a, vs, rfl, _⟩ := h; rfl
    | obj _ _ => obtain ⟨a, vs, rfl, _⟩ := h; rfl
    | scr _ => obtain ⟨a, rfl, _⟩ := h; rfl
  · rfl
def isD : D → D → Option D
  | x, .non => some (.bl (isNon x))
  | _, _ => none
def isntD : D → D → Option D
  | x, .non => some (.bl (!isNon x))
  | _, _ => none
theorem p_is {K : PySem.W.Frag} : Prim2 K T (fun x y H Q => y = .non ∧ Q (.bl (decide (x = .non))) H) isD := fun S H x y dx dy d Q e hx hy h g => by
  cases dy <;> first | cases h | skip
  refine ⟨hy.non, ?_⟩
  rw [isNon_of hx]; exact g.now e rfl
/-- in: flat things in a list, a tuple; a text in a text -/
def inStr (x y : Str) : Bool := !(Builtin.Str.occurrences y x 0 y.length 1).isEmpty
def anyEq (x : D) (ys : List D) : Bool := ys.any fun y => deq y x
def inD : D → D → Option D
  | .str x, .str y => some (.bl (inStr x y))
  | x, .lst ys => if x.flat && ys.all D.flat then some (.bl (anyEq x ys)) else none
  | x, .tup ys => if x.flat && ys.all D.flat then some (.bl (anyEq x ys)) else none
  | _, _ => none
def ninD : D → D → Option D
  | .str x, .str y => some (.bl (!inStr x y))
  | x, .lst ys => if x.flat && ys.all D.flat then some (.bl (!anyEq x ys)) else none
  | x, .tup ys => if x.flat && ys.all D.flat then some (.bl (!anyEq x ys)) else none
  | _, _ => none
theorem flat_V {K : PySem.W.Frag} {S : Hp} {d : D} {v : V} (h : d.flat = true) (r : Rp K T S d v) : flatV v = true := by
  cases d <;> first | cases h | skip
  · rw [show v = _ from r]; rfl
  · rw [show v = _ from r]; rfl
  · rw [show v = _ from r]; rfl
  · rw [show v = _ from r]; rfl
theorem eqV_of {K : PySem.W.Frag} {S : Hp} {d e : D} {v w : V} (hd : d.flat = true) (he : e.flat = true) (r : Rp K T S d v) (q : Rp K T S e w) : eqV v w = deq d e := by
  cases d <;> first | cases hd | skip
  all_goals (cases e <;> first | cases he | skip)
  all_goals (rw [show v = _ from r, show w = _ from q]; simp [eqV, deq])
theorem Rps.flatV : ∀ {K : PySem.W.Frag} {S : Hp} {ds : List D} {vs : List V}, ds.all D.flat = true → Rps K T S ds vs → vs.all L2.flatV = true
  | _, _, [], _, _, r => by rw [show _ = [] from r]; rfl
  | _, _, d :: ds, _, h, ⟨v, r, e1, h1, hs⟩ => by
    rw [List.all_cons, Bool.and_eq_true] at h
    rw [e1, List.all_cons, flat_V h.1 h1, Rps.flatV h.2 hs]; rfl
theorem Rps.inV {K : PySem.W.Frag} {S : Hp} {x : D} {u : V} (hx : x.flat = true) (rx : Rp K T S x u) : ∀ {ds : List D} {vs : List V}, ds.all D.flat = true → Rps K T S ds vs → L2.inV u vs = anyEq x ds
  | [], _, _, r => by rw [show _ = [] from r]; rfl
  | d :: ds, _, h, ⟨v, r, e1, h1, hs⟩ => by
    rw [List.all_cons, Bool.and_eq_true] at h
    rw [e1]
    unfold L2.inV anyEq
    rw [List.any_cons, List.any_cons, eqV_of h.1 hx h1 rx]
    have := Rps.inV hx rx h.2 hs
    unfold L2.inV anyEq at this
    rw [this]
def rIn2 (K : PySem.W.Frag) (neg : Bool) : R2 := fun x y H Q => (∃ i j, x = .str i ∧ y = .str j ∧ Q (.bl (if neg then !inStr i j else inStr i j)) H) ∨ rIn K neg x y H Q
theorem op_inA : OpR X (compareOp .In) (rIn2 X.K false) := op_in_str.or op_in_seq
theorem op_ninA : OpR X (compareOp .NotIn) (rIn2 X.K true) := op_notin_str.or op_notIn_seq
theorem RpH.flat {K : PySem.W.Frag} {S H : Hp} {d : D} {v : V} (h : RpH K T S H d v) (hf : d.flat = true) : Rp K T S d v := by
  rcases h with h | ⟨_, _, _, _, rfl, _⟩
  · exact h
  · cases hf
theorem p_in {K : PySem.W.Frag} : Prim2 K T (rIn2 K false) inD := fun S H x y dx dy d Q e hx hy h g => by
  unfold inD at h
  split at h
  · cases h; exact .inl ⟨_, _, hx.str, hy.str, g.now e rfl⟩
  · split at h
    · rename_i hb
      cases h
      rw [Bool.and_eq_true] at hb
      obtain ⟨a, vs, rfl, q, r⟩ := hy.lst e
      refine .inr ⟨a, vs, rfl, .inl (SqL.of q), flat_V hb.1 (hx.flat hb.1), Rps.flatV hb.2 r, ?_⟩
      rw [Rps.inV hb.1 (hx.flat hb.1) hb.2 r]; exact g.now e rfl
    · cases h
  · split at h
    · rename_i hb
      cases h
      rw [Bool.and_eq_true] at hb
      obtain ⟨a, vs, rfl, q, r⟩ := hy.tup e
      refine .inr ⟨a, vs, rfl, .inr q, flat_V hb.1 (hx.flat hb.1), Rps.flatV hb.2 r, ?_⟩
      rw [Rps.inV hb.1 (hx.flat hb.1) hb.2 r]; exact g.now e rfl
    · cases h
  · cases h
theorem p_nin {K : PySem.W.Frag} : Prim2 K T (rIn2 K true) ninD := fun S H x y dx dy d Q e hx hy h g => by
  unfold ninD at h
  split at h
  · cases h; exact .inl ⟨_, _, hx.str, hy.str, g.now e rfl⟩
  · split at h
    · rename_i hb
      cases h
      rw [Bool.and_eq_true] at hb
      obtain ⟨a, vs, rfl, q, r⟩ := hy.lst e
      refine .inr ⟨a, vs, rfl, .inl (SqL.of q), flat_V hb.1 (hx.flat hb.1), Rps.flatV hb.2 r, ?_⟩
      rw [Rps.inV hb.1 (hx.flat hb.1) hb.2 r]; exact g.now e rfl
    · cases h
  · split at h
    · rename_i hb
      cases h
      rw [Bool.and_eq_true] at hb
      obtain ⟨a, vs, rfl, q, r⟩ := hy.tup e
      refine .inr ⟨a, vs, rfl, .inr q, flat_V hb.1 (hx.flat hb.1), Rps.flatV hb.2 r, ?_⟩
      rw [Rps.inV hb.1 (hx.flat hb.1) hb.2 r]; exact g.now e rfl
    · cases h
  · cases h
end
end Lq
namespace Lq
open PySem PySem.Spec PyProof.Rows L2
section
variable {K : PySem.W.Frag} {T : Tb} {S H : Hp}
theorem RpHs.one {d : D} {us : List V} (h : RpHs K T S H [d] us) : ∃ u, us = [u] ∧ RpH K T S H d u := by
  obtain ⟨u, r, e1, h1, h2⟩ := h
  rw [show r = [] from h2] at e1
  exact ⟨u, e1, h1⟩
theorem RpHs.two {d e : D} {us : List V} (h : RpHs K T S H [d, e] us) : ∃ u v, us = [u, v] ∧ RpH K T S H d u ∧ RpH K T S H e v := by
  obtain ⟨u, r, e1, h1, h2⟩ := h
  obtain ⟨v, e2, h3⟩ := h2.one
  rw [e2] at e1
  exact ⟨u, v, e1, h1, h3⟩
theorem RpH.scr {ns : List Int} {v : V} (h : RpH K T S H (.scr ns) v) (e : SameT T S H) : ∃ a, v = .ref a ∧ SqL K H a (ns.map V.int) := by
  rcases h with ⟨a, e1, q⟩ | ⟨_, _, _, _, e2, _⟩
  · exact ⟨a, e1, e.seq q⟩
  · cases e2
/-- len -/
def lenD : List D → Option D
  | [.lst xs] => some (.int xs.length)
  | [.tup xs] => some (.int xs.length)
  | [.scr ns] => some (.int ns.length)
  | [.str s] => if fits s.length then some (.int s.length) else none
  | _ => none
theorem p_len : PrimN K T (fun xs H Q => ∃ x n, xs = [x] ∧ LenV K x H n ∧ Q (.int n) H) lenD := fun S H xs ds d Q e h hg g => by
  unfold lenD at hg
  split at hg
  · cases hg
    obtain ⟨u, rfl, hu⟩ := h.one
    obtain ⟨a, vs, rfl, q, r⟩ := hu.lst e
    exact ⟨_, _, rfl, .inl ⟨vs, SqL.of q, r.len.symm⟩, g.now e rfl⟩
  · cases hg
    obtain ⟨u, rfl, hu⟩ := h.one
    obtain ⟨a, vs, rfl, q, r⟩ := hu.tup e
    exact ⟨_, _, rfl, .inr ⟨vs, q, r.len.symm⟩, g.now e rfl⟩
  · cases hg
    obtain ⟨u, rfl, hu⟩ := h.one
    obtain ⟨a, rfl, q⟩ := hu.scr e
    exact ⟨_, _, rfl, .inl ⟨_, q, (List.length_map ..).symm⟩, g.now e rfl⟩
  · split at hg
    · rename_i hf
      cases hg
      obtain ⟨u, rfl, hu⟩ := h.one
      rw [hu.str]
      exact ⟨_, _, rfl, ⟨fits_line hf, rfl⟩, g.now e rfl⟩
    · cases hg
  · cases hg
/-- subscripts -/
def atD : D → D → Option D
  | .lst xs, .int i => atI xs i
  | .tup xs, .int i => atI xs i
  | .scr ns, .int i => (atI ns i).map D.int
  | .str s, .int i => if fits s.length then (atI s.cps.toList i).map fun c => D.str ⟨#[c]⟩ else none
  | _, _ => none
theorem atI_rps {ds : List D} {vs : List V} {i : Int} {d : D} (r : Rps K T S ds vs) (h : atI ds i = some d) : ∃ v, atI vs i = some v ∧ Rp K T S d v := by
  unfold atI at h ⊢
  rw [r.len]
  cases q : ixN ds.length i with
  | none => rw [q] at h; cases h
  | some j =>
    rw [q] at h
    obtain ⟨v, h1, h2⟩ := r.get (show ds[j]? = some d from h)
    exact ⟨v, h1, h2⟩
theorem p_ix : Prim2 K T (rIx K) atD := fun S H x y dx dy d Q e hx hy h g => by
  unfold atD at h
  split at h
  · obtain ⟨a, vs, rfl, q, r⟩ := hx.lst e
    obtain ⟨v, hv, rv⟩ := atI_rps r h
    exact .inl ⟨a, vs, _, v, rfl, hy.int, SqL.of q, hv, g.now e rv⟩
  · obtain ⟨a, vs, rfl, q, r⟩ := hx.tup e
    obtain ⟨v, hv, rv⟩ := atI_rps r h
    exact .inr (.inl ⟨a, vs, _, v, rfl, hy.int, q, hv, g.now e rv⟩)
  · rename_i ns i
    obtain ⟨a, rfl, q⟩ := hx.scr e
    cases z : atI ns i with
    | none => rw [z] at h; cases h
    | some k =>
      rw [z] at h
      cases h
      have hz : atI (ns.map V.int) i = some (.int k) := by
        unfold atI at z ⊢
        rw [List.length_map]
        cases y : ixN ns.length i with
        | none => rw [y] at z; cases z
        | some j =>
          rw [y] at z
          have z' : ns[j]? = some k := z
          show (ns.map V.int)[j]? = _
          rw [List.getElem?_map, z']; rfl
      exact .inl ⟨a, _, _, _, rfl, hy.int, q, hz, g.now e rfl⟩
  · split at h
    · rename_i s i hf
      cases q : atI s.cps.toList i with
      | none => rw [q] at h; cases h
      | some c =>
        rw [q] at h
        cases h
        exact .inr (.inr ⟨s, i, c, hx.str, hy.int, fits_line hf, q, g.now e rfl⟩)
    · cases h
  · cases h
/-- slices -/
def cutL {α : Type} (xs : List α) (lo hi : Option Int) : List α := (xs.drop (HT.sIx xs.length 0 lo)).take (HT.sIx xs.length xs.length hi - HT.sIx xs.length 0 lo)
def cutD (x : D) (lo hi : Option Int) : Option D := match x with
  | .lst xs => some (.lst (cutL xs lo hi))
  | .tup xs => some (.tup (cutL xs lo hi))
  | .scr ns => some (.lst (cutL (ns.map D.int) lo hi))
  | .str s => if fits s.length then some (.str (cutS s lo hi)) else none
  | _ => none
theorem Rps.cut {ds : List D} {vs : List V} (r : Rps K T S ds vs) (lo hi : Option Int) : Rps K T S (cutL ds lo hi) (cutV vs lo hi) := by
  unfold cutL cutV
  rw [r.len]
  exact (r.drop _).take _
theorem cutL_whole {α : Type} {xs : List α} {lo hi : Option Int} (h : HT.sIx xs.length 0 lo = 0 ∧ HT.sIx xs.length xs.length hi = xs.length) : cutL xs lo hi = xs := by
  unfold cutL
  rw [h.1, h.2, List.drop_zero, Nat.sub_zero, List.take_length]
def rSl3 (K : PySem.W.Frag) : V → Option Int → Option Int → Hp → VK → Prop := fun x lo hi H Q => rSlL K x lo hi H Q ∨ rSlA K x lo hi H Q ∨ rSlS x lo hi H Q
theorem sl_any {X : Cx} : L2.SlR X (rSl3 X.K) := sl_list.or (sl_tupA.or sl_str)
theorem p_sl {x : V} {dx d : D} {lo hi : Option Int} {Q : VK} (e : SameT T S H) (hx : RpH K T S H dx x) (h : cutD dx lo hi = some d) (g : Gv K T S H d Q) : rSl3 K x lo hi H Q := by
  unfold cutD at h
  split at h
  · cases h
    obtain ⟨a, vs, rfl, q, r⟩ := hx.lst e
    exact .inl ⟨a, vs, rfl, SqL.of q, fun p hp => g.newL e (r.cut lo hi) p hp⟩
  · rename_i xs
    cases h
    obtain ⟨a, vs, rfl, q, r⟩ := hx.tup e
    refine .inr (.inl ⟨a, vs, rfl, q, fun hw => ?_, fun _ p hp => g.newT e (r.cut lo hi) p hp⟩)
    rw [r.len] at hw
    rw [cutL_whole hw] at g
    rcases hx with hx | ⟨_, _, _, _, ee, _⟩
    · exact g.now e hx
    · cases ee
  · cases h
    obtain ⟨a, rfl, q⟩ := hx.scr e
    exact .inl ⟨a, _, rfl, q, fun p hp => g.newL e ((Rps.ints _).cut lo hi) p hp⟩
  · split at h
    · rename_i hf
      cases h
      exact .inr (.inr ⟨_, hx.str, fits_line hf, g.now e rfl⟩)
    · cases h
  · cases h
/-- the parts of a slice -/
def rOp (K : PySem.W.Frag) (T : Tb) (W : WX) (f : Rho → R (Option Int)) : TO := rG K T W (fun _ _ (b c : Option Int) => b = c) f
def noPart : Rho → R (Option Int) := fun ρ => .ok none ρ
def aPart (fa : Rho → R VD) : Rho → R (Option Int) := fun ρ => (fa ρ).bind fun v ρ1 => match v with | .d (.int i) => .ok (some i) ρ1 | _ => .bad
end
def XO (X : Cx) (T : Tb) (W : WX) (e : Option Expr) (f : Rho → R (Option Int)) : Prop := PO X e (rOp X.K T W f)
section
variable {X : Cx} {T : Tb} {W : WX} {a b c e o : Expr} {es : List Expr} {fa fb fc fo : Rho → R VD} {fs : Rho → R (List VD)} {ft fu : Rho → R Bool} {pos : Pos}
theorem xo_none : XO X T W none noPart := ⟨fun pins s σ H Q I h => po_none.run pins s σ H Q I (by
  obtain ⟨β, G, S, ρ, o, p⟩ := h
  exact p S H none (Same.refl _) o rfl)⟩
theorem xo_some (he : XE X T W e fa) : XO X T W (some e) (aPart fa) := ⟨fun pins s σ H Q I h => (po_some he).run pins s σ H Q I (by
  obtain ⟨β, G, S, ρ, o, p⟩ := h
  refine ⟨β, G, S, ρ, o, Post.thn (Rl := RpV X.K T σ) p fun S1 H1 ρ1 v u e1 o1 h1 p1 => ?_⟩
  split at p1
  · exact ⟨_, h1, p1 S1 H1 _ (Same.refl _) o1 rfl⟩
  · exact p1.elim)⟩
def slE (fa : Rho → R VD) (fl fh : Rho → R (Option Int)) : Rho → R VD := fun ρ => (fa ρ).bind fun v ρ1 => (fl ρ1).bind fun l ρ2 => (fh ρ2).bind fun h ρ3 => match res v ρ3 with
  | some x => (match cutD x l h with | some d => .ok (.d d) ρ3 | none => .bad)
  | none => .bad
theorem xe_sl {lo hi : Option Expr} {fl fh : Rho → R (Option Int)} {p2 : Pos} (he : XE X T W e fa) (hl : XO X T W lo fl) (hh : XO X T W hi fh) : XE X T W (.Subscript e (.Slice lo hi none p2) pos) (slE fa fl fh) :=
  (pe_slice sl_any he hl hh).impQ fun σ H Q h => by
    obtain ⟨β, G, S, ρ, o, p⟩ := h
    refine ⟨β, G, S, ρ, o, Post.thn (Rl := RpV X.K T σ) p fun S1 H1 ρ1 v u e1 o1 h1 p1 => ?_⟩
    refine ⟨β, G, S1, ρ1, o1, Post.thn (Rl := fun _ (b c : Option Int) => b = c) p1 fun S2 H2 ρ2 l l' e2 o2 h2 p2 => ?_⟩
    refine ⟨β, G, S2, ρ2, o2, Post.thn (Rl := fun _ (b c : Option Int) => b = c) p2 fun S3 H3 ρ3 k k' e3 o3 h3 p3 => ?_⟩
    subst h2; subst h3
    split at p3
    · rename_i x q
      split at p3
      · rename_i d q2
        exact p_sl o3.sh (o3.res (h1.mono (e2.trans e3)) q) q2 (p3.gv o3)
      · exact p3.elim
    · exact p3.elim
/-! ### a < b <= c -/
def chainE (g g' : D → D → Option D) (fa fb fc : Rho → R VD) : Rho → R VD := fun ρ => (fa ρ).bind fun v ρ1 => (fb ρ1).bind fun w ρ2 => match v, w with
  | .d x, .d y => (match g x y with
    | some (.bl true) => (fc ρ2).bind fun z ρ3 => (match z with | .d u => (match g' y u with | some d => .ok (.d d) ρ3 | none => .bad) | _ => .bad)
    | some (.bl false) => .ok (.d (.bl false)) ρ2
    | _ => .bad)
  | _, _ => .bad
/-! ### methods of texts -/
def strM (g : Str → List D → Option D) (fo : Rho → R VD) (fs : Rho → R (List VD)) : Rho → R VD := fun ρ => (fo ρ).bind fun v ρ1 => match v with
  | .d (.str s) => (fs ρ1).bind fun vs ρ2 => (match resAll vs ρ2 with | some xs => (match g s xs with | some d => .ok (.d d) ρ2 | none => .bad) | none => .bad)
  | _ => .bad
def splitD (s : Str) : List D → Option D
  | [.str b] => if !(b.length == 0) && fits s.length then some (.lst ((Txt.split s b).map D.str)) else none
  | _ => none
def joinD (s : Str) : List D → Option D
  | [x] => (match x.items? with
    | some xs => (match allOf D.str? xs with
      | some ys => if decide ((ys.map (·.length)).sum + ys.length * s.length ≤ 16777216) then some (.str (Txt.join s ys)) else none
      | none => none)
    | none => none)
  | _ => none
/-! ### built-ins -/
def tupleD : List D → Option D
  | [.lst xs] => some (.tup xs)
  | [.tup xs] => some (.tup xs)
  | _ => none
theorem p_tuple {K : PySem.W.Frag} : PrimN K T (fun xs H Q => ∃ p ys, xs = [.ref p] ∧ ((SqL K H p ys ∧ ∀ l, H l = none → Q (.ref l) (upd H l (.tup ys))) ∨ (SqT K H p ys ∧ Q (.ref p) H))) tupleD := fun S H xs ds d Q e h hg g => by
  unfold tupleD at hg
  split at hg
  · cases hg
    obtain ⟨u, rfl, hu⟩ := h.one
    obtain ⟨a, vs, rfl, q, r⟩ := hu.lst e
    exact ⟨a, vs, rfl, .inl ⟨SqL.of q, fun l hl => g.newT e r l hl⟩⟩
  · cases hg
    obtain ⟨u, rfl, hu⟩ := h.one
    obtain ⟨a, vs, rfl, q, r⟩ := hu.tup e
    rcases hu with hu | ⟨_, _, _, _, ee, _⟩
    · exact ⟨a, vs, rfl, .inr ⟨q, g.now e hu⟩⟩
    · cases ee
  · cases hg
def listF : List D → Option (List D)
  | [.lst xs] => some xs
  | [.tup xs] => some xs
  | _ => none
theorem p_list {K : PySem.W.Frag} : PrimNF K T (fun xs H Q => ∃ p ys, xs = [.ref p] ∧ (SqL K H p ys ∨ SqT K H p ys) ∧ ∀ l, H l = none → Q (.ref l) (upd H l (.lst ys))) listF := fun S H xs ds d Q e h hg g => by
  unfold listF at hg
  split at hg
  · cases hg
    obtain ⟨u, rfl, hu⟩ := h.one
    obtain ⟨a, vs, rfl, q, r⟩ := hu.lst e
    exact ⟨a, vs, rfl, .inl (SqL.of q), fun l hl => g.new e r l hl⟩
  · cases hg
    obtain ⟨u, rfl, hu⟩ := h.one
    obtain ⟨a, vs, rfl, q, r⟩ := hu.tup e
    exact ⟨a, vs, rfl, .inr q, fun l hl => g.new e r l hl⟩
  · cases hg
def allD : List D → Option D
  | [.lst xs] => (match allOf D.bl? xs with | some bs => some (.bl (bs.all id)) | none => none)
  | _ => none
def anyD : List D → Option D
  | [.lst xs] => (match allOf D.bl? xs with | some bs => some (.bl (bs.any id)) | none => none)
  | _ => none
def sumD : List D → Option D
  | [.lst xs] => (match allOf D.int? xs with | some bs => some (.int bs.sum) | none => none)
  | _ => none
theorem p_all {K : PySem.W.Frag} : PrimN K T (rAll K) allD := fun S H xs ds d Q e h hg g => by
  unfold allD at hg
  split at hg
  case h_2 => cases hg
  case h_1 ys =>
  split at hg
  case h_2 => cases hg
  case h_1 bs q =>
  cases hg
  have ez := allOf_bls q
  subst ez
  obtain ⟨u, rfl, hu⟩ := h.one
  obtain ⟨a, vs, rfl, q', r⟩ := hu.lst e
  have := r.blsV
  subst this
  exact ⟨a, bs, rfl, SqL.of q', g.now e rfl⟩
theorem p_sum {K : PySem.W.Frag} : PrimN K T (rSum K) sumD := fun S H xs ds d Q e h hg g => by
  unfold sumD at hg
  split at hg
  case h_2 => cases hg
  case h_1 ys =>
  split at hg
  case h_2 => cases hg
  case h_1 bs q =>
  cases hg
  have ez := allOf_ints q
  subst ez
  obtain ⟨u, rfl, hu⟩ := h.one
  obtain ⟨a, vs, rfl, q', r⟩ := hu.lst e
  have := r.intsV
  subst this
  exact ⟨a, bs, rfl, SqL.of q', g.now e rfl⟩
def absD : List D → Option D
  | [.int i] => some (.int (if i < 0 then -i else i))
  | _ => none
theorem p_abs {K : PySem.W.Frag} : PrimN K T (fun xs H Q => ∃ i, xs = [.int i] ∧ Q (.int (if i < 0 then -i else i)) H) absD := fun S H xs ds d Q e h hg g => by
  unfold absD at hg
  split at hg
  · cases hg
    obtain ⟨u, rfl, hu⟩ := h.one
    rw [hu.int]
    exact ⟨_, rfl, g.now e rfl⟩
  · cases hg
def min2D : List D → Option D
  | [.int i, .int j] => some (.int (if j < i then j else i))
  | _ => none
def max2D : List D → Option D
  | [.int i, .int j] => some (.int (if j > i then j else i))
  | _ => none
/-- int of an int, a bool, a text -/
def intD : List D → Option D
  | [.int i] => some (.int i)
  | [.bl b] => some (.int (if b then 1 else 0))
  | [.str s] => if decide (s.length ≤ 640) then (PySem.intText? s).map D.int else none
  | _ => none
def rInt3 : List V → Hp → VK → Prop := fun xs H Q => ((∃ i, xs = [.int i] ∧ Q (.int i) H) ∨ ∃ k, xs = [.bl k] ∧ Q (.int (if k then 1 else 0)) H) ∨ ∃ a n, xs = [.str a] ∧ PySem.intText? a = some n ∧ a.length ≤ 640 ∧ Q (.int n) H
theorem call_intA : CallR X (.type "int") rInt3 := call_int1.or call_int_str
theorem p_int {K : PySem.W.Frag} : PrimN K T rInt3 intD := fun S H xs ds d Q e h hg g => by
  unfold intD at hg
  split at hg
  · cases hg
    obtain ⟨u, rfl, hu⟩ := h.one
    rw [hu.int]
    exact .inl (.inl ⟨_, rfl, g.now e rfl⟩)
  · cases hg
    obtain ⟨u, rfl, hu⟩ := h.one
    rw [hu.bl]
    exact .inl (.inr ⟨_, rfl, g.now e rfl⟩)
  · split at hg
    · rename_i s hf
      cases q : PySem.intText? s with
      | none => rw [q] at hg; cases hg
      | some n =>
        rw [q] at hg
        cases hg
        obtain ⟨u, rfl, hu⟩ := h.one
        rw [hu.str]
        exact .inr ⟨s, n, rfl, q, of_decide_eq_true hf, g.now e rfl⟩
    · cases hg
  · cases hg
def strD : List D → Option D
  | [.int i] => if decide (i.natAbs.log2 < 1920) then some (.str (toString i)) else none
  | _ => none
end
end Lq
namespace Lq
open PySem PySem.Spec PyProof.Rows L2
/-! ### several values at once, new lists among them -/
inductive MV where
  | d (x : D)
  | f (ds : List D)
  | g
def Hold (K : PySem.W.Frag) (T : Tb) (S : Hp) : Hp → Hp → List MV → List V → Prop
  | G, G', [], us => us = [] ∧ G' = G
  | G, G', .d x :: ms, us => ∃ u r, us = u :: r ∧ Rp K T S x u ∧ Hold K T S G G' ms r
  | G, G', .f ds :: ms, us => ∃ p vs r, us = .ref p :: r ∧ G p = none ∧ Rps K T S ds vs ∧ Hold K T S (upd G p (.lst vs)) G' ms r
  | G, G', .g :: ms, us => ∃ p r, us = .ref p :: r ∧ G p = none ∧ Hold K T S (upd G p (.dK [])) G' ms r
def PostM (K : PySem.W.Frag) (T : Tb) (W : WX) (β : Bt) (G S : Hp) (σ : L2.St) (r : R (List MV)) (Q : List V → Hp → Prop) : Prop := match r with
  | .ok ms ρ' => ∀ S' H' us G', Same S S' → Ok K T β G' S' σ ρ' H' → Hold K T S' G G' ms us → Q us H'
  | .err x ρ' => ∀ S' H' c d, Same S S' → Ok K T β G S' σ ρ' H' → XR K T S' x c d → W c d σ H'
  | .bad => False
def rM (K : PySem.W.Frag) (T : Tb) (W : WX) (f : Rho → R (List MV)) : TA := fun σ H Q => ∃ β G S ρ, Ok K T β G S σ ρ H ∧ PostM K T W β G S σ (f ρ) Q
def XM (X : Cx) (T : Tb) (W : WX) (es : List Expr) (f : Rho → R (List MV)) : Prop := PA X es (rM X.K T W f)
section
variable {K : PySem.W.Frag} {T : Tb} {W : WX} {β : Bt} {G S S' H : Hp} {σ : L2.St} {ρ : Rho}
def nilM : Rho → R (List MV) := fun ρ => .ok [] ρ
def consMd (fa : Rho → R VD) (fm : Rho → R (List MV)) : Rho → R (List MV) := fun ρ => (fa ρ).bind fun v ρ1 => match v with | .d x => (fm ρ1).bind fun ms ρ2 => .ok (.d x :: ms) ρ2 | .sl _ => .bad
theorem xm_nil {X : Cx} : XM X T W [] nilM := pa_nil.impQ fun σ H Q h => by
  obtain ⟨β, G, S, ρ, o, p⟩ := h
  exact p S H [] G (Same.refl _) o ⟨rfl, rfl⟩
theorem PostM.mono {r : R (List MV)} {Q : List V → Hp → Prop} (h : PostM K T W β G S σ r Q) (e : Same S S') : PostM K T W β G S' σ r Q := by
  cases r with
  | ok a ρ' => exact fun S2 H2 us G' e2 o => h S2 H2 us G' (e.trans e2) o
  | err x ρ' => exact fun S2 H2 c d e2 o => h S2 H2 c d (e.trans e2) o
  | bad => exact h
/-- what a wish about errors says with less guarded -/
theorem xm_d {X : Cx} {e : Expr} {es : List Expr} {fa : Rho → R VD} {fm : Rho → R (List MV)} (ha : XE X T W e fa) (hs : XM X T W es fm) (hst : starEach (e :: es) X.env = (false, eval e X.env) :: starEach es X.env := by rfl) : XM X T W (e :: es) (consMd fa fm) := (pa_cons ha hs hst).impQ fun σ H Q h => by
  obtain ⟨β, G, S, ρ, o, p⟩ := h
  refine ⟨β, G, S, ρ, o, ?_⟩
  unfold consMd at p
  revert p
  cases fa ρ with
  | bad => exact fun p => p
  | err x ρ1 => exact fun p => p
  | ok v ρ1 =>
    intro p S1 H1 u e1 o1 h1
    dsimp only [R.bind] at p
    cases v with
    | sl i => exact p.elim
    | d x =>
      refine ⟨β, G, S1, ρ1, o1, ?_⟩
      dsimp only at p
      have p' := PostM.mono p e1
      revert p'
      cases fm ρ1 with
      | bad => exact fun p => p
      | err y ρ2 => exact fun p => p
      | ok ms ρ2 => exact fun p S2 H2 us G' e2 o2 h2 => p S2 H2 _ G' e2 o2 ⟨u, us, rfl, Rp.mono e2 _ _ h1, h2⟩
/-- the errors of the rest must not come while a new list is held -/
def noErr (r : R (List MV)) : R (List MV) := match r with | .err _ _ => .bad | r => r
def consMf' (f : Rho → R (List D)) (fm : Rho → R (List MV)) : Rho → R (List MV) := fun ρ => (f ρ).bind fun ds ρ1 => (noErr (fm ρ1)).bind fun ms ρ2 => .ok (.f ds :: ms) ρ2
/-- the names take them -/
def setsS (σ : L2.St) : List Nat → List V → L2.St
  | i :: is, u :: us => setsS (σ.set i (some u)) is us
  | _, _ => σ
def setsR (ρ : Rho) : List Nat → List MV → Rho
  | i :: is, .d x :: ms => setsR (ρ.set i (.d x)) is ms
  | i :: is, .f ds :: ms => setsR (ρ.set i (.m ds)) is ms
  | i :: is, .g :: ms => setsR (ρ.set i (.k [])) is ms
  | _, _ => ρ
theorem setsS_out {i : Nat} {v : Option V} : ∀ {is : List Nat} {us : List V} {σ : L2.St}, i ∉ is → setsS (σ.set i v) is us = (setsS σ is us).set i v
  | [], _, _, _ => by unfold setsS; rfl
  | j :: is, [], _, _ => by unfold setsS; rfl
  | j :: is, u :: us, σ, h => by
    simp only [List.mem_cons, not_or] at h
    unfold setsS
    rw [List.set_comm _ _ h.1]
    exact setsS_out h.2
theorem setsR_out {i : Nat} {c : Cell} : ∀ {is : List Nat} {ms : List MV} {ρ : Rho}, i ∉ is → setsR (ρ.set i c) is ms = (setsR ρ is ms).set i c
  | [], _, _, _ => by unfold setsR; rfl
  | j :: is, [], _, _ => by unfold setsR; rfl
  | j :: is, .d x :: ms, ρ, h => by
    simp only [List.mem_cons, not_or] at h
    unfold setsR
    rw [List.set_comm _ _ h.1]
    exact setsR_out h.2
  | j :: is, .f x :: ms, ρ, h => by
    simp only [List.mem_cons, not_or] at h
    unfold setsR
    rw [List.set_comm _ _ h.1]
    exact setsR_out h.2
  | j :: is, .g :: ms, ρ, h => by
    simp only [List.mem_cons, not_or] at h
    unfold setsR
    rw [List.set_comm _ _ h.1]
    exact setsR_out h.2
/-- a name takes a new dict -/
theorem Ok.setK (o : Ok K T β G S σ ρ H) {i : Nat} {p : Addr} {l : List (Key × D)} {kvs : List (Key × V)} (f : Fre β G S σ ρ p) (h : H p = some (.dK kvs)) (ek : kvs.map (·.1) = l.map (·.1)) (r : Rps K T S (l.map (·.2)) (kvs.map (·.2))) : Ok K T β G S (σ.set i (some (.ref p))) (ρ.set i (.k l)) H where
  sh := o.sh
  gh := o.gh
  gs := o.gs
  gb := o.gb
  bx := o.bx
  len := by rw [List.length_set, List.length_set]; exact o.len
  cel := fun j c q => by
    by_cases hj : j = i
    · subst hj
      have hl : j < ρ.length := by have := (List.getElem?_eq_some_iff.mp q).1; rwa [List.length_set] at this
      have e := get_set_eq q
      subst e
      exact ⟨p, kvs, List.getElem?_set_self (by rw [o.len]; exact hl), h, f.s, f.g, f.b, ek, r⟩
    · rw [List.getElem?_set_ne (Ne.symm hj)] at q ⊢
      exact o.cel j c q
  dis := fun j k xs ys q1 q2 e => by
    have h1 : j ≠ i := fun z => by subst z; cases get_set_eq q1
    have h2 : k ≠ i := fun z => by subst z; cases get_set_eq q2
    rw [List.getElem?_set_ne (Ne.symm h1)] at q1 e
    rw [List.getElem?_set_ne (Ne.symm h2)] at q2 e
    exact o.dis j k xs ys q1 q2 e
theorem Ok.sets : ∀ {is : List Nat} {ms : List MV} {us : List V} {G G' : Hp}, is.Nodup → is.length = ms.length → Ok K T β G' S σ ρ H → Hold K T S G G' ms us → Ok K T β G S (setsS σ is us) (setsR ρ is ms) H
  | [], [], us, G, G', _, _, o, h => by
    obtain ⟨rfl, rfl⟩ := h
    unfold setsS setsR; exact o
  | i :: is, .d x :: ms, us, G, G', hn, hl, o, ⟨u, r, e1, rx, hs⟩ => by
    have hn' := List.nodup_cons.mp hn
    subst e1
    unfold setsS setsR
    rw [setsS_out hn'.1, setsR_out hn'.1]
    exact (Ok.sets hn'.2 (by simpa using hl) o hs).setD rx
  | i :: is, .f ds :: ms, us, G, G', hn, hl, o, ⟨p, vs, r, e1, hg, rx, hs⟩ => by
    have hn' := List.nodup_cons.mp hn
    subst e1
    unfold setsS setsR
    rw [setsS_out hn'.1, setsR_out hn'.1]
    obtain ⟨o1, fr, hv⟩ := (Ok.sets hn'.2 (by simpa using hl) o hs).unguard hg
    exact o1.setM fr hv rx
  | i :: is, .g :: ms, us, G, G', hn, hl, o, ⟨p, r, e1, hg, hs⟩ => by
    have hn' := List.nodup_cons.mp hn
    subst e1
    unfold setsS setsR
    rw [setsS_out hn'.1, setsR_out hn'.1]
    obtain ⟨o1, fr, hv⟩ := (Ok.sets hn'.2 (by simpa using hl) o hs).unguard hg
    exact o1.setK fr hv rfl rfl
  | [], _ :: _, _, _, _, _, hl, _, _ => by cases hl
  | _ :: _, [], _, _, _, _, hl, _, _ => by cases hl
theorem Hold.len : ∀ {ms : List MV} {us : List V} {G G' : Hp}, Hold K T S G G' ms us → us.length = ms.length
  | [], _, _, _, ⟨h, _⟩ => by rw [h]; rfl
  | .d x :: ms, _, _, _, ⟨u, r, e1, _, hs⟩ => by rw [e1, List.length_cons, List.length_cons, Hold.len hs]
  | .f x :: ms, _, _, _, ⟨p, vs, r, e1, _, _, hs⟩ => by rw [e1, List.length_cons, List.length_cons, Hold.len hs]
  | .g :: ms, _, _, _, ⟨p, r, e1, _, hs⟩ => by rw [e1, List.length_cons, List.length_cons, Hold.len hs]
def parS (is : List Nat) (fm : Rho → R (List MV)) : Rho → O := fun ρ => (fm ρ).thnO fun ms ρ1 => if is.length = ms.length then .nx (setsR ρ1 is ms) else .bad
theorem par_of {is : List Nat} {fm : Rho → R (List MV)} {De : Ends} {Q' : List V → Hp → Prop} (hn : is.Nodup) (h : rS K T W (parS is fm) De σ H)
    (hq : ∀ us H1, us.length = is.length → (∀ H2, Same H1 H2 → (∃ q u, H1 q = none ∧ H2 = upd H1 q u) ∨ H2 = H1 → De.nx (setsS σ is us) H2) → Q' us H1) : rM K T W fm σ H Q' := by
  obtain ⟨β, G, S, ρ, o, p⟩ := h
  refine ⟨β, G, S, ρ, o, ?_⟩
  unfold parS at p
  revert p
  cases fm ρ with
  | bad => exact fun p => p
  | err x ρ1 => exact fun p S1 H1 c d e o q => p S1 σ H1 c d e o q
  | ok ms ρ1 =>
    intro p S1 H1 us G' e1 o1 h1
    dsimp only [R.thnO] at p
    by_cases hl : is.length = ms.length
    · rw [if_pos hl] at p
      have o2 := Ok.sets hn hl o1 h1
      refine hq us H1 (by rw [h1.len, hl]) fun H2 e2 hh => ?_
      rcases hh with ⟨q, u, hq1, rfl⟩ | rfl
      · exact p S1 _ _ e1 (o2.ext (Ext.skip o2.sh hq1))
      · exact p S1 _ _ e1 o2
    · rw [if_neg hl] at p; exact p.elim
end
section
variable {X : Cx} {T : Tb} {W : WX} {pos px py pz pt pt2 : Pos} {kt k2 : Nat} {a b c : Expr} {fm : Rho → R (List MV)}
theorem us2 {us : List V} (h : us.length = 2) : ∃ v w, us = [v, w] := by
  cases us with
  | nil => cases h
  | cons v r => cases r with
    | nil => cases h
    | cons w r => cases r with
      | nil => exact ⟨v, w, rfl⟩
      | cons _ _ => simp at h
theorem us3 {us : List V} (h : us.length = 3) : ∃ v w z, us = [v, w, z] := by
  cases us with
  | nil => cases h
  | cons v r =>
    obtain ⟨w, z, rfl⟩ := us2 (us := r) (by simpa using h)
    exact ⟨v, w, z, rfl⟩
/-- a, b = x, y (plain locals) -/
theorem xs_par2 (i j : Nat) {x y : Str} (hc : X.calm = true) (hN : X.N.Nodup) (ha : XM X T W [a, b] fm) (hw : swappedStores [.Tuple [.Name x px, .Name y py] kt pt] (.Tuple [a, b] k2 pt2) X.env = pure (some [x, y]) := by rfl) (hij : i ≠ j := by decide) (hi : X.N[i]? = some x := by rfl) (hj : X.N[j]? = some y := by rfl)
    (hx : X.env.scope.names.lookup x = some .local := by rfl) (hy : X.env.scope.names.lookup y = some .local := by rfl)
    (hs : swapsWithSole [.Tuple [.Name x px, .Name y py] kt pt] (.Tuple [a, b] k2 pt2) pos.line X.env = pure false := by rfl) :
    XS X T W (.Assign [.Tuple [.Name x px, .Name y py] kt pt] (.Tuple [a, b] k2 pt2) pos) (parS [i, j] fm) :=
  (ps_par hc hN hi hj hij hx hy ha hw hs).impQ fun De σ H q => par_of (is := [i, j]) (by simp [hij]) q fun us H1 hl k => by
    obtain ⟨v, w, rfl⟩ := us2 hl
    exact ⟨v, w, rfl, k H1 (Same.refl _) (.inr rfl)⟩
/-- targets that are names, told by slots -/
def gNames : List Nat → TGs := fun is vs σ H Q => vs.length = is.length ∧ Q (setsS σ is vs) H
theorem pgs_names : ∀ {is : List Nat} {es : List Expr} {t : TGs}, PGs X es t → (∀ vs σ H Q, gNames is vs σ H Q → t vs σ H Q) → PGs X es (gNames is) := fun h i => h.impQ i
theorem gn_nil (vs : List V) (σ : L2.St) (H : Hp) (Q : L2.St → Hp → Prop) (h : gNames [] vs σ H Q) : gNil vs σ H Q := by
  obtain ⟨h1, h2⟩ := h
  have : vs = [] := List.length_eq_zero_iff.mp h1
  subst this
  exact ⟨rfl, h2⟩
theorem gn_cons {i : Nat} {is : List Nat} {u : TGs} (hu : ∀ vs σ H Q, gNames is vs σ H Q → u vs σ H Q) (vs : List V) (σ : L2.St) (H : Hp) (Q : L2.St → Hp → Prop) (h : gNames (i :: is) vs σ H Q) : gCons (gName i) u vs σ H Q := by
  obtain ⟨h1, h2⟩ := h
  cases vs with
  | nil => cases h1
  | cons v r => exact ⟨v, r, rfl, hu r _ H Q ⟨by simpa using h1, h2⟩⟩
/-- (names) = (values): the tuple is made and taken apart -/
theorem xs_parN {is : List Nat} {ts es : List Expr} {n : Nat} (hc : X.calm = true) (hn : is.Nodup) (hl : is.length = n) (hf : fits n = true) (ha : XM X T W es fm) (hg : PGs X ts (gNames is)) (hln : (assignEach ts X.env).length = n := by rfl) (hst : (assignEach ts X.env).findIdx? (·.1) = none := by rfl)
    (hs : swapsWithSole [.Tuple ts kt pt] (.Tuple es k2 pt2) pos.line X.env = pure false := by rfl) (hw : swappedStores [.Tuple ts kt pt] (.Tuple es k2 pt2) X.env = pure none := by rfl)
    (h1 : (assignEach [.Tuple ts kt pt] X.env).map (·.2) = [assign (.Tuple ts kt pt) X.env] := by rfl) :
    XS X T W (.Assign [.Tuple ts kt pt] (.Tuple es k2 pt2) pos) (parS is fm) :=
  (ps_asg (pe_tup ha) (pg_tup hc hg hln hst) hs hw h1).impQ fun De σ H q => par_of hn q fun us H1 hlu k => by
    refine ⟨by rw [hlu, hl]; exact fits_line hf, fun p hp => ⟨p, us, rfl, SqT.of upd_same, by rw [hlu, hl], hlu, k _ (same_new hp) (.inl ⟨p, _, hp, rfl⟩)⟩⟩
end
end Lq
namespace Lq
open PySem PySem.Spec PyProof.Rows L2
/-! ### defs that draw from the box: their first argument -/
structure ExtB (T : Tb) (b : Addr) (ns' : List Int) (S H S' H' : Hp) : Prop where
  s : Same S S'
  h : ∀ c o, c ≠ b → H c = some o → (n : NoTb o := by first | exact fun _ z => nomatch z | assumption) → H' c = some o
  ht : ∀ c ps, c ≠ b → H c = some (.tbl ps) → ∃ qs, H' c = some (.tbl qs)
  bx : H' b = some (.lst (ns'.map V.int))
  sh : SameT T S' H'
  fr : ∀ c o, H c = some o → NoT o → S c = none → S' c = none
def spB (K : PySem.W.Frag) (T : Tb) (n : Nat) (F : List Int → List D → Option (D × List Int)) : Sp := fun vs H Q _ => ∃ S b ns ws ds, vs = .ref b :: ws ∧ SameT T S H ∧ S b = none ∧ H b = some (.lst (ns.map V.int)) ∧ Rps K T S ds ws ∧ ds.length = n ∧
  match F ns ds with
  | some (d, ns') => ∀ S' H' v, ExtB T b ns' S H S' H' → Rp K T S' d v → Q v H'
  | none => False
def boxAt (ρ : Rho) (d : D) : Option (D × List Int) := match ρ[0]? with | some (Cell.b ns) => some (d, ns) | _ => none
def runB (a n : Nat) (f : Rho → O) (ns : List Int) (ds : List D) : Option (D × List Int) := if ds.length = a then (match f (.b ns :: startR n ds) with
  | .nx ρ => boxAt ρ .non
  | .rt v ρ => (match v with
    | .d x => boxAt ρ x
    | .sl i => (match ρ[i]? with | some (.m xs) => boxAt ρ (.lst xs) | _ => none))
  | .rf ds ρ => boxAt ρ (.lst ds)
  | _ => none) else none
theorem runB_len {a n : Nat} {f : Rho → O} (ns : List Int) (ds : List D) (h : runB a n f ns ds ≠ none) : ds.length = a := by
  unfold runB at h
  split at h
  · assumption
  · exact (h rfl).elim
def besidesB (b : Addr) (S H : Hp) : Hp := fun c => if c = b then none else besides S H c
section
variable {K : PySem.W.Frag} {T : Tb} {S S' H : Hp}
theorem bb_ne {b c : Addr} (h : c ≠ b) : besidesB b S H c = besides S H c := by unfold besidesB; rw [if_neg h]
theorem bb_self {b : Addr} : besidesB b S H b = none := by unfold besidesB; rw [if_pos rfl]
theorem bb_of {b c : Addr} {o : HO} (e : besidesB b S H c = some o) : c ≠ b ∧ besides S H c = some o := by
  by_cases h : c = b
  · subst h; rw [bb_self] at e; cases e
  · rw [bb_ne h] at e; exact ⟨h, e⟩
theorem boxAt_of {β : Bt} {G : Hp} {σ : L2.St} {ρ : Rho} {d d' : D} {ns' : List Int} (o : Ok K T β G S σ ρ H) (h : boxAt ρ d = some (d', ns')) : d' = d ∧ ∃ b, β = .bx b ∧ H b = some (.lst (ns'.map V.int)) := by
  unfold boxAt at h
  split at h
  · rename_i ns q
    cases h
    obtain ⟨a, _, e2, e3⟩ := o.cel 0 _ q
    exact ⟨rfl, a, e2, e3⟩
  · cases h
end
section
variable {P : Program} {w : World} {K : PySem.W.Frag} {mg : Str → Option Value} {base : Heap} {T : Tb}
theorem fn_box {x qual : Str} {st : Stmt} {f : Addr} {fd : FuncData} {N ps : List Str} {k n m : Nat} {g : Rho → O} (F : Fun K x qual st f fd) (Sc : FnScope N ps (defScope st)) (hlen : ps.length ≤ N.length) (hps : ps.length = n + 1) (hN : N.length = m + 1)
    (hbody : ∀ (cdv : Value) (A : Around) (outer : List PySem.Env) (s : Shared) (H : Hp) (E : XK), Room k (A.deeper (envOfC qual (defScope st) s.heap.objs.size f cdv)) →
      PassesOwn (model P w) (cxOf (L2.CX P w) P w K mg base N qual (defScope st) f cdv A outer s H E).A (cxOf (L2.CX P w) P w K mg base N qual (defScope st) f cdv A outer s H E).env (cxOf (L2.CX P w) P w K mg base N qual (defScope st) f cdv A outer s H E).xe →
      XB (cxOf (L2.CX P w) P w K mg base N qual (defScope st) f cdv A outer s H E) T W0 (defBody st) g) :
    FnOk P w K mg base (L2.CX P w) (k + 1) f fd ps (spB K T n (runB n m g)) := by
  refine F.okX Sc (fun vs H Q E h => ?_) (fun cdv A outer s H vs Q E hr h => ?_)
  · obtain ⟨S, b, ns, ws, ds, rfl, e, _, _, r, hl, _⟩ := h
    rw [List.length_cons, r.len, hl, hps]
  · obtain ⟨S, b, ns, ws, ds, rfl, e, hb, hbx, r, hl, p⟩ := h
    refine ⟨_, hbody cdv A outer s H E hr (passes_of rfl), .bx b, besidesB b S H, S, .b ns :: startR m ds, ?_, ?_⟩
    · refine ⟨e, besides_same.step fun c o q => .inr ⟨(bb_of q).2, rfl⟩, fun c o q _ => besides_apart (bb_of q).2, fun c q => ?_, fun c q => ?_, ?_, fun i c q => ?_, fun i j xs ys q => ?_⟩
      · cases q; exact ⟨bb_self, hb⟩
      · cases q; exact ⟨_, hbx, fun _ z => nomatch z⟩
      · unfold L2.start startR
        simp only [List.length_append, List.length_map, List.length_cons, List.length_replicate]
        rw [r.len, hN]
        omega
      · cases i with
        | zero =>
          simp at q; subst q
          exact ⟨b, by simp [L2.start], rfl, hbx⟩
        | succ i =>
          have := start_cell (n := N.length - (ws.length + 1)) (k := m - ds.length) (i := i) (c := c) (H := H) (β := .bx b) (G := besidesB b S H) r (by simpa [startR] using q)
          have this2 : CellOk K T (.bx b) (besidesB b S H) S H (L2.start N (V.ref b :: ws))[i + 1]? c := by simpa [L2.start] using this
          exact this2
      · cases i with
        | zero => simp at q
        | succ i => exact (start_noM (i := i) (by simpa [startR] using q)).elim
    · have fin : ∀ {S' σ' ρ' H' d d' ns'}, Same S S' → Ok K T (.bx b) (besidesB b S H) S' σ' ρ' H' → boxAt ρ' d = some (d', ns') → d' = d ∧ ExtB T b ns' S H S' H' := fun {S' σ' ρ' H' d d' ns'} e1 o hba => by
        obtain ⟨e2, b', e3, e4⟩ := boxAt_of o hba
        cases e3
        refine ⟨e2, e1, fun c u hc q n => ?_, fun c ps hc q => ?_, e4, o.sh, fun c u q n z => ?_⟩
        · cases z : S c with
          | none => exact o.gh.at_ c u (by rw [bb_ne hc]; exact besides_of q z) n
          | some u' => have := e.eq z q n; subst this; exact o.sh.at_ c _ (e1.at_ c _ z n) n
        · cases z : S c with
          | none => exact o.gh.tb c ps (by rw [bb_ne hc]; exact besides_of q z)
          | some u' =>
            by_cases nu : ∃ qs, u' = .tbl qs
            · obtain ⟨qs, rfl⟩ := nu
              obtain ⟨rs, w⟩ := e1.tb c qs z
              exact o.sh.tb c rs w
            · have := e.at_ c u' z fun qs w => nu ⟨qs, w⟩
              rw [q] at this; cases this; exact (nu ⟨ps, rfl⟩).elim
        · by_cases hc : c = b
          · subst hc; exact (o.gb c rfl).2
          · exact o.gs c u (by rw [bb_ne hc]; exact besides_of q z) n
      unfold runB at p
      rw [if_pos hl] at p
      revert p
      cases g (.b ns :: startR m ds) with
      | nx ρ' =>
        intro p S' σ' H' e1 o
        dsimp only at p
        cases q : boxAt ρ' .non with
        | none => rw [q] at p; exact p.elim
        | some dn =>
          rw [q] at p
          obtain ⟨e2, x2⟩ := fin e1 o q
          exact p S' H' .non x2 (by rw [e2]; rfl)
      | rt v ρ' =>
        intro p S' σ' H' u e1 o hv
        cases v with
        | d x =>
          dsimp only at p
          cases q : boxAt ρ' x with
          | none => rw [q] at p; exact p.elim
          | some dn =>
            rw [q] at p
            obtain ⟨e2, x2⟩ := fin e1 o q
            exact p S' H' u x2 (by rw [e2]; exact hv)
        | sl i =>
          dsimp only at p
          cases qi : ρ'[i]? with
          | none => rw [qi] at p; exact p.elim
          | some c =>
            rw [qi] at p
            cases c with
            | m xs =>
              dsimp only at p
              obtain ⟨a, vs', e2, e3, e4, r', o2⟩ := o.frzSlot qi
              have : σ'[i]? = some (some u) := hv
              rw [e2] at this; cases this
              cases q : boxAt ρ' (.lst xs) with
              | none => rw [q] at p; exact p.elim
              | some dn =>
                rw [q] at p
                have q' : boxAt (ρ'.set i (.d (.lst xs))) (.lst xs) = some dn := by
                  unfold boxAt at q ⊢
                  have hi : i ≠ 0 := fun z => by subst z; rw [qi] at q; cases q
                  rw [List.getElem?_set_ne hi]; exact q
                obtain ⟨e5, x2⟩ := fin (e1.trans (same_new e4)) o2 q'
                exact p _ H' (.ref a) x2 (by rw [e5]; exact ⟨a, vs', rfl, upd_same, Rps.mono (same_new e4) _ _ r'⟩)
            | _ => exact p.elim
      | rf ds' ρ' =>
        intro p S' σ' H' a vs' e1 o fr hv r'
        dsimp only at p
        cases q : boxAt ρ' (.lst ds') with
        | none => rw [q] at p; exact p.elim
        | some dn =>
          rw [q] at p
          obtain ⟨e5, x2⟩ := fin (e1.trans (same_new fr.s)) (o.freeze fr hv) q
          exact p _ H' (.ref a) x2 (by rw [e5]; exact ⟨a, vs', rfl, upd_same, Rps.mono (same_new fr.s) _ _ r'⟩)
      | err x ρ' => exact fun p => p.elim
      | bk ρ' => exact fun p => p.elim
      | ct ρ' => exact fun p => p.elim
      | bad => exact fun p => p.elim
end
def isB : Cell → Bool
  | .b _ => true
  | _ => false
def onlyB (i : Nat) (ρ : Rho) : Bool := (ρ.set i .no).all fun c => !isB c
def callBE (F : List Int → List D → Option (D × List Int)) (fs : Rho → R (List VD)) : Rho → R VD := fun ρ => (fs ρ).bind fun vs ρ1 => match vs with
  | .sl i :: ws => (match ρ1[i]?, datAll ws with
    | some (.b ns), some ds => if onlyB i ρ1 then (match F ns ds with | some (d, ns') => .ok (.d d) (ρ1.set i (.b ns')) | none => .bad) else .bad
    | _, _ => .bad)
  | _ => .bad
section
variable {K : PySem.W.Frag} {T : Tb} {W : WX} {β : Bt} {G S S' H : Hp} {σ : L2.St} {ρ : Rho}
theorem ExtB.hs {b : Addr} {ns' : List Int} {S H S' H' : Hp} (e : ExtB T b ns' S H S' H') {c : Addr} {o : HO} (hc : c ≠ b) (h : H c = some o) (n : NoT o) : ∃ u, H' c = some u ∧ NoT u := by
  by_cases z : ∃ ps, o = .tbl ps
  · obtain ⟨ps, rfl⟩ := z
    obtain ⟨qs, w⟩ := e.ht c ps hc h
    exact ⟨_, w, fun _ z => nomatch z⟩
  · exact ⟨o, e.h c o hc h fun ps w => z ⟨ps, w⟩, n⟩
/-- G stays where b is none of it -/
theorem ExtB.gh {b : Addr} {ns' : List Int} {G S H S' H' : Hp} (e : ExtB T b ns' S H S' H') (g : Same G H) (gb : G b = none) : Same G H' := ⟨fun c u q n => e.h c u (fun z => by subst z; rw [gb] at q; cases q) (g.at_ c u q n) n, fun c ps q => by
  obtain ⟨qs, w⟩ := g.tb c ps q
  exact e.ht c qs (fun z => by subst z; rw [gb] at q; cases q) w⟩
theorem ExtB.gs {b : Addr} {ns' : List Int} {G S H S' H' : Hp} (e : ExtB T b ns' S H S' H') (g : Same G H) {c : Addr} {u : HO} (q : G c = some u) (n : NoT u) (s : S c = none) : S' c = none := by
  obtain ⟨v, h1, n1⟩ := g.there q n
  exact e.fr c v h1 n1 s
theorem Ok.extB {b : Addr} {ns' : List Int} {H' : Hp} {i : Nat} {ns : List Int} (o : Ok K T (.bx b) G S σ ρ H) (e : ExtB T b ns' S H S' H') (hi : ρ[i]? = some (.b ns)) (hob : onlyB i ρ = true) : Ok K T (.bx b) G S' σ (ρ.set i (.b ns')) H' where
  sh := e.sh
  gh := e.gh o.gh (o.gb b rfl).1
  gs := fun c u q n => e.gs o.gh q n (o.gs c u q n)
  gb := fun c q => by
    cases q
    obtain ⟨ms, hb, hn⟩ := o.bx b rfl
    exact ⟨(o.gb b rfl).1, (e.fr b _ hb hn ((o.gb b rfl).2))⟩
  bx := fun c q => by cases q; exact ⟨_, e.bx, fun _ z => nomatch z⟩
  len := by rw [List.length_set]; exact o.len
  cel := fun j c q => by
    by_cases hj : j = i
    · subst hj
      have := get_set_eq q
      subst this
      obtain ⟨a, e1, e2, e3⟩ := o.cel j _ hi
      cases e2
      exact ⟨b, e1, rfl, e.bx⟩
    · rw [List.getElem?_set_ne (Ne.symm hj)] at q
      have h1 := o.cel j c q
      cases c with
      | no => trivial
      | d x => obtain ⟨u, e1, r⟩ := h1; exact ⟨u, e1, Rp.mono e.s _ _ r⟩
      | m xs =>
        obtain ⟨a, vs, e1, e2, e3, e4, e5, r⟩ := h1
        exact ⟨a, vs, e1, e.h _ _ (fun z => e5 (by rw [z])) e2, (e.fr _ _ e2 (fun _ z => nomatch z) e3), e4, e5, Rps.mono e.s _ _ r⟩
      | k l =>
        obtain ⟨a, kvs, e1, e2, e3, e4, e5, ek, r⟩ := h1
        exact ⟨a, kvs, e1, e.h _ _ (fun z => e5 (by rw [z])) e2, (e.fr _ _ e2 (fun _ z => nomatch z) e3), e4, e5, ek, Rps.mono e.s _ _ r⟩
      | kt l =>
        obtain ⟨a, kvs, e1, e2, e3, e4, e5, ek, r⟩ := h1
        exact ⟨a, kvs, e1, e.h _ _ (fun z => e5 (by rw [z])) e2, (e.fr _ _ e2 (fun _ z => nomatch z) e3), e4, e5, ek, Rps.mono e.s _ _ r⟩
      | b ms =>
        exfalso
        unfold onlyB at hob
        have hm : Cell.b ms ∈ ρ.set i .no := List.mem_of_getElem? (i := j) (by rw [List.getElem?_set_ne (Ne.symm hj)]; exact q)
        have := List.all_eq_true.mp hob _ hm
        cases this
      | z => first | exact h1 | exact h | (obtain ⟨_, _, _, e2⟩ := h1; cases e2) | cases hpi | cases hk' | cases pl
      | s t =>
        obtain ⟨a, dx, e1, e2, _⟩ := h1
        cases e2
  dis := fun j l xs ys q1 q2 e1 => by
    have h1 : j ≠ i := fun z => by subst z; cases get_set_eq q1
    have h2 : l ≠ i := fun z => by subst z; cases get_set_eq q2
    rw [List.getElem?_set_ne (Ne.symm h1)] at q1
    rw [List.getElem?_set_ne (Ne.symm h2)] at q2
    exact o.dis j l xs ys q1 q2 e1
theorem callB_of {F : List Int → List D → Option (D × List Int)} {n : Nat} {fs : Rho → R (List VD)} {Q : VK} (hn : ∀ ns ds, F ns ds ≠ none → ds.length = n) (h : rE K T W (callBE F fs) σ H Q) : tCallS (spB K T n F) (WE W) (rA K T W fs) σ H Q := by
  obtain ⟨β, G, S, ρ, o, p⟩ := h
  refine ⟨β, G, S, ρ, o, Post.thn (Rl := RpVs K T σ) p fun S1 H1 ρ1 vs us e1 o1 h1 p1 => ?_⟩
  split at p1
  case h_2 => exact p1.elim
  case h_1 i ws =>
  split at p1
  case h_2 => exact p1.elim
  case h_1 ns ds q1 q2 =>
  split at p1
  case isFalse => exact p1.elim
  case isTrue hob =>
  obtain ⟨u, r, e2, hu, hr⟩ := h1
  obtain ⟨a, f1, f2, f3⟩ := o1.cel i _ q1
  have : σ[i]? = some (some u) := hu
  rw [f1] at this; cases this
  subst f2
  refine ⟨S1, a, ns, r, ds, e2, o1.sh, (o1.gb a rfl).2, f3, datAll_rps q2 hr, hn ns ds (fun z => by rw [z] at p1; exact p1), ?_⟩
  revert p1
  cases F ns ds with
  | none => exact fun p1 => p1
  | some dn => exact fun p1 S2 H2 v x2 rv => p1 S2 H2 v x2.s (o1.extB x2 q1 hob) rv
end
section
variable {X : Cx} {T : Tb} {W : WX} {e : Expr} {es : List Expr} {fs : Rho → R (List VD)} {pos : Pos}
theorem xe_callBx {F : List Int → List D → Option (D × List Int)} {k : Nat} {f : Addr} {fd : FuncData} {ps : List Str} {n : Nat} {x : Str} {p : Pos} (Fk : FnOk X.prog X.w X.K X.mg X.base (L2.CX X.prog X.w) k f fd ps (spB X.K T n F)) (hr : Room k X.A) (hm : X.mg x = some (.ref f)) (hk : PySem.W.keepIn X.K (.ref f) = true) (hb : Binds X.K fd ps [])
    (tk : Takes X W) (hn : ∀ ns ds, F ns ds ≠ none → ds.length = n) (ha : XA X T W (e :: es) fs) (hg : L2.Gl X x := by rfl) (hdb : (x == ("__debug__" : Str)) = false := by decide) (he : starEach (e :: es) X.env = (false, eval e X.env) :: starEach es X.env := by rfl) (hpl : (backTo pos (starEach es X.env)).any (·.1) = false := by rfl) :
    XE X T W (.Call (.Name x p) (e :: es) [] pos) (callBE F fs) :=
  (pe_callS Fk hr hg hm hk hb (fun σ => passAt tk σ) ha hdb he hpl).impQ fun _ _ _ h => callB_of hn h
end
/-! ### a list of a slot's own is changed -/
section
variable {K : PySem.W.Frag} {T : Tb} {W : WX} {β : Bt} {G S S' H : Hp} {σ : L2.St} {ρ : Rho}
theorem Ok.updM {i : Nat} {xs ys : List D} {a : Addr} {ws : List V} (o : Ok K T β G S σ ρ H) (hi : ρ[i]? = some (.m xs)) (ha : σ[i]? = some (some (.ref a))) (r : Rps K T S ys ws) : Ok K T β G S σ (ρ.set i (.m ys)) (upd H a (.lst ws)) := by
  obtain ⟨a', vs, e1, e2, e3, e4, e5, r0⟩ := o.cel i _ hi
  rw [ha] at e1; cases e1
  refine ⟨o.sh.step (Keep.upd e2) fun b u q => .inr ⟨q, upd_ne (fun z => by subst z; rw [e3] at q; cases q)⟩, o.gh.step fun b u q => .inr ⟨q, upd_ne (fun z => by subst z; rw [e4] at q; cases q)⟩, o.gs, o.gb, fun b q => ?_, by rw [List.length_set]; exact o.len, fun j c q => ?_, fun j l us vs' q1 q2 e => ?_⟩
  · rw [upd_ne (fun z => e5 (by rw [q, z]))]; exact o.bx b q
  · by_cases hj : j = i
    · subst hj
      have := get_set_eq q
      subst this
      exact ⟨a, ws, ha, upd_same, e3, e4, e5, r⟩
    · rw [List.getElem?_set_ne (Ne.symm hj)] at q
      have h1 := o.cel j c q
      cases c with
      | no => trivial
      | d x => exact h1
      | m zs =>
        obtain ⟨a2, vs2, f1, f2, f3, f4, f5, r2⟩ := h1
        have hne : a2 ≠ a := fun z => hj (o.dis j i zs xs q hi (by rw [f1, ha, z]))
        exact ⟨a2, vs2, f1, by rw [upd_ne hne]; exact f2, f3, f4, f5, r2⟩
      | k l =>
        obtain ⟨a2, kvs2, f1, f2, f3, f4, f5, fk, r2⟩ := h1
        have hne : a2 ≠ a := fun z => by rw [z, e2] at f2; cases f2
        exact ⟨a2, kvs2, f1, by rw [upd_ne hne]; exact f2, f3, f4, f5, fk, r2⟩
      | kt l =>
        obtain ⟨a2, kvs2, f1, f2, f3, f4, f5, fk, r2⟩ := h1
        have hne : a2 ≠ a := fun z => by rw [z, e2] at f2; cases f2
        exact ⟨a2, kvs2, f1, by rw [upd_ne hne]; exact f2, f3, f4, f5, fk, r2⟩
      | b ns =>
        obtain ⟨a2, f1, f2, f3⟩ := h1
        have hne : a2 ≠ a := fun z => e5 (by rw [f2, z])
        exact ⟨a2, f1, f2, by rw [upd_ne hne]; exact f3⟩
      | z => first | exact h1 | exact h | (obtain ⟨_, _, _, e2⟩ := h1; cases e2) | cases hpi | cases hk' | cases pl
      | s t =>
        obtain ⟨a2, dx, f1, f2, f3, f4, f5, f6, f7, f8⟩ := h1
        have hne : a2 ≠ a := fun z => by rw [z, e2] at f3; cases f3
        have hd : dx ≠ a := fun z => by rw [z, e2] at f4; cases f4
        exact ⟨a2, dx, f1, f2, by rw [upd_ne hne]; exact f3, by rw [upd_ne hd]; exact f4, f5, f6, f7, f8⟩
  · by_cases h1 : j = i
    · by_cases h2 : l = i
      · rw [h1, h2]
      · rw [List.getElem?_set_ne (Ne.symm h2)] at q2
        exact h1.trans (o.dis i l xs vs' hi q2 (by rw [← h1]; exact e))
    · rw [List.getElem?_set_ne (Ne.symm h1)] at q1
      by_cases h2 : l = i
      · exact (o.dis j i us xs q1 hi (by rw [← h2]; exact e)).trans h2.symm
      · rw [List.getElem?_set_ne (Ne.symm h2)] at q2
        exact o.dis j l us vs' q1 q2 e
end
/-- o.append(e), o a slot's own list -/
def appE (i : Nat) (fs : Rho → R (List VD)) : Rho → R VD := fun ρ => match ρ[i]? with
  | some (.m _) => (fs ρ).bind fun vs ρ1 => (match ρ1[i]?, vs with
    | some (.m xs), [.d y] => if fits (xs.length + 1) then .ok (.d .non) (ρ1.set i (.m (xs ++ [y]))) else .bad
    | _, _ => .bad)
  | _ => .bad
/-- o.pop(k) -/
def popE (i : Nat) (fs : Rho → R (List VD)) : Rho → R VD := fun ρ => match ρ[i]? with
  | some (.m _) => (fs ρ).bind fun vs ρ1 => (match ρ1[i]?, vs with
    | some (.m xs), [.d (.int k)] => if decide (0 ≤ k) && decide (k < 1000000) then (match xs[k.toNat]? with | some y => .ok (.d y) (ρ1.set i (.m (xs.eraseIdx k.toNat))) | none => .bad) else .bad
    | _, _ => .bad)
  | _ => .bad
theorem Rps.erase {K : PySem.W.Frag} {T : Tb} {S : Hp} : ∀ {ds : List D} {vs : List V} (k : Nat), Rps K T S ds vs → Rps K T S (ds.eraseIdx k) (vs.eraseIdx k)
  | [], _, _, h => by rw [show _ = [] from h]; exact rfl
  | d :: ds, _, 0, ⟨v, r, e1, h, hs⟩ => by rw [e1]; exact hs
  | d :: ds, _, k + 1, ⟨v, r, e1, h, hs⟩ => by rw [e1]; exact ⟨v, _, rfl, h, Rps.erase k hs⟩
section
variable {X : Cx} {T : Tb} {W : WX} {e : Expr} {es : List Expr} {fs : Rho → R (List VD)} {pos : Pos}
/-- what a method asks of a slot's own list -/
theorem slotM_of {K : PySem.W.Frag} {i : Nat} {r : V → List V → Hp → VK → Prop} {σ : L2.St} {H : Hp} {Q : VK} {fe : Rho → R VD} {k : List VD → Rho → R VD} (he : ∀ ρ, fe ρ = match ρ[i]? with | some (.m _) => (fs ρ).bind k | _ => .bad)
    (hk : ∀ {β G S H ρ vs us a}, Ok K T β G S σ ρ H → RpVs K T σ S vs us → σ[i]? = some (some (.ref a)) → Post K T W β G S σ (RpV K T σ) (k vs ρ) Q → r (.ref a) us H Q) (h : rE K T W fe σ H Q) : tBM K "list" r (tVar i) (rA K T W fs) σ H Q := by
  obtain ⟨β, G, S, ρ, o, p⟩ := h
  rw [he] at p
  cases q : ρ[i]? with
  | none => rw [q] at p; exact p.elim
  | some c =>
    rw [q] at p
    cases c with
    | m xs =>
      obtain ⟨a, vs, e1, e2, _⟩ := o.cel i _ q
      refine ⟨.ref a, e1, .inl ⟨rfl, vs, SqL.of e2⟩, β, G, S, ρ, o, Post.thn (Rl := RpVs K T σ) p fun S1 H1 ρ1 ws us e3 o1 h1 p1 => hk o1 h1 e1 p1⟩
    | _ => exact p.elim
theorem xe_append (i : Nat) {x : Str} {px apos cpos : Pos} (ha : XA X T W (e :: es) fs) (hN : X.N[i]? = some x := by rfl) (hv : Vis X.env.scope x := by first | exact Or.inl rfl | exact Or.inr (Or.inl rfl) | exact Or.inr (Or.inr rfl)) (hd : (x == ("__debug__" : Str)) = false := by decide) (hcd : (x == ("__classdict__" : Str)) = false := by decide)
    (hbase : attributeBase (.Name x px) "append" X.env (eval (.Name x px) X.env) = eval (.Name x px) X.env := by rfl)
    (hfew : ((backTo cpos (starEach (e :: es) X.env)).all (fun x => !x.1) && (backToKw cpos (keywordEach [] X.env)).all (fun x => x.1.isSome) && decide ((e :: es).length + ([] : List Keyword).length + (if ([] : List Keyword).isEmpty then 0 else 1) < 30)) = true := by rfl)
    (hline : (apos.endLine == cpos.line) = true := by rfl) (hs : starEach (e :: es) X.env = (false, eval e X.env) :: starEach es X.env := by rfl) (hplain : (backTo cpos (starEach es X.env)).any (·.1) = false := by rfl) :
    XE X T W (.Call (.Attribute (.Name x px) "append" apos) (e :: es) [] cpos) (appE i fs) :=
  (pe_bm PySem.F.plainAttrs_list PySem.F.slot_list_append PySem.F.type_list_append mt_append (pe_var hN hv hd hcd) ha hbase hfew hline hs hplain).impQ fun σ H Q h => by
    refine slotM_of (i := i) (fe := appE i fs) (k := fun vs ρ1 => match ρ1[i]?, vs with | some (.m xs), [.d y] => if fits (xs.length + 1) then .ok (.d .non) (ρ1.set i (.m (xs ++ [y]))) else .bad | _, _ => .bad) (fun ρ => rfl) (fun {β G S H ρ vs us a} o hu ha p => ?_) h
    split at p
    · rename_i xs y q
      split at p
      · rename_i hf
        obtain ⟨b, ws, e1, e2, e3, e4, e5, r⟩ := o.cel i _ q
        rw [ha] at e1; cases e1
        obtain ⟨u, rfl, hy⟩ := hu.one
        refine ⟨a, ws, u, rfl, rfl, e2, by rw [r.len]; exact Nat.lt_of_succ_le (fits_line hf), ?_⟩
        exact p S _ .non (Same.refl _) (o.updM q ha (r.append (Rps.one hy))) rfl
      · exact p.elim
    · exact p.elim
end
end Lq
namespace Lq
open PySem PySem.Spec PyProof.Rows L2
/-! ### isinstance -/
def tyName : D → String
  | .non => "NoneType"
  | .bl _ => "bool"
  | .int _ => "int"
  | .str _ => "str"
  | .lst _ => "list"
  | .tup _ => "tuple"
  | .obj _ _ => "?"
  | .scr _ => "?"
def isiB (d : D) (t : String) : Bool := tyName d == t || (tyName d == "bool" && t == "int")
theorem kb_all : ∀ a ∈ ["NoneType", "bool", "int", "str", "list", "tuple"], ∀ b ∈ ["int", "str", "bool", "list", "tuple"], kitB a b = some (a == b || (a == "bool" && b == "int")) := by decide +kernel
def notObj : D → Bool
  | .obj _ _ => false
  | .scr _ => false
  | _ => true
theorem ty_mem {d : D} (h : notObj d = true) : tyName d ∈ ["NoneType", "bool", "int", "str", "list", "tuple"] := by
  cases d <;> first | (simp [tyName]; done) | cases h
section
variable {K : PySem.W.Frag} {T : Tb} {S H : Hp}
theorem RpH.ty {d : D} {v : V} (h : RpH K T S H d v) (e : SameT T S H) (hn : notObj d = true) : TyX K H v (.type (tyName d)) := by
  cases d with
  | non => rw [h.non]; exact .base .non
  | bl b => rw [h.bl]; exact .base (.bl b)
  | int b => rw [h.int]; exact .base (.int b)
  | str b => rw [h.str]; exact .base (.str b)
  | lst xs => obtain ⟨a, vs, rfl, q, _⟩ := h.lst e; exact .base (.lst q)
  | tup xs =>
    obtain ⟨a, vs, rfl, q, _⟩ := h.tup e
    rcases q with (q | ⟨o, q⟩) | ⟨o, its, n, hk, hc, _⟩
    · exact .base (.tup q)
    · exact .fTuple q
    · exact .kTuple hk hc
  | obj _ _ => cases hn
  | scr _ => cases hn
end
def isiE (ts : List String) (fa : Rho → R VD) : Rho → R VD := fun ρ => (fa ρ).bind fun v ρ1 => match res v ρ1 with
  | some d => if notObj d then .ok (.d (.bl (ts.any (isiB d)))) ρ1 else .bad
  | none => .bad
section
variable {X : Cx} {T : Tb} {W : WX} {e : Expr} {es : List Expr} {fa : Rho → R VD} {fs : Rho → R (List VD)} {pos : Pos}
theorem xe_isi1 {t : String} {x : Str} {p p2 : Pos} (hm : X.mg "isinstance" = none) (hv : bootBuiltins "isinstance" = some (.builtin "isinstance")) (hmt : X.mg x = none) (hvt : bootBuiltins x = some (.type t)) (he : XE X T W e fa) (ht : t ∈ ["int", "str", "bool", "list", "tuple"]) (hg : L2.Gl X "isinstance" := by rfl) (hgt : L2.Gl X x := by rfl)
    (hn : x ≠ "__name__" := by decide) (hd : (x == ("__debug__" : Str)) = false := by decide)
    (h1 : starEach [e, .Name x p2] X.env = (false, eval e X.env) :: starEach [.Name x p2] X.env := by rfl) (h2 : starEach [.Name x p2] X.env = (false, eval (.Name x p2) X.env) :: starEach [] X.env := by rfl) (hpl : (backTo pos (starEach [.Name x p2] X.env)).any (·.1) = false := by rfl) :
    XE X T W (.Call (.Name "isinstance" p) [e, .Name x p2] [] pos) (isiE [t] fa) :=
  (pe_callB call_isi hg hm hv (pa_cons he (pa_cons (pe_bltn (v := .ty t) hgt hmt hvt rfl hn hd) pa_nil h2) h1) (by decide) (by decide) h1 hpl).impQ fun σ H Q h => by
    obtain ⟨β, G, S, ρ, o, p⟩ := h
    refine ⟨β, G, S, ρ, o, Post.thn (Rl := RpV X.K T σ) p fun S1 H1 ρ1 v u e1 o1 h1 p1 => ?_⟩
    split at p1
    · rename_i d q
      split at p1
      · rename_i hno
        refine ⟨u, .ty t, .type (tyName d), .type t, _, rfl, .ty t, (o1.res h1 q).ty o1.sh hno, kit_ty (kb_all _ (ty_mem hno) t ht), ?_⟩
        have := p1 S1 H1 (.bl ([t].any (isiB d))) (Same.refl _) o1 rfl
        simpa [isiB] using this
      · exact p1.elim
    · exact p1.elim
theorem xe_isi2 {t t' : String} {x x' : Str} {p p2 p3 p4 : Pos} {kt : Nat} (hm : X.mg "isinstance" = none) (hv : bootBuiltins "isinstance" = some (.builtin "isinstance")) (hmt : X.mg x = none) (hvt : bootBuiltins x = some (.type t)) (hmt' : X.mg x' = none) (hvt' : bootBuiltins x' = some (.type t')) (he : XE X T W e fa)
    (ht : t ∈ ["int", "str", "bool", "list", "tuple"]) (ht' : t' ∈ ["int", "str", "bool", "list", "tuple"]) (hg : L2.Gl X "isinstance" := by rfl) (hgt : L2.Gl X x := by rfl) (hgt' : L2.Gl X x' := by rfl)
    (hn : x ≠ "__name__" := by decide) (hd : (x == ("__debug__" : Str)) = false := by decide) (hn' : x' ≠ "__name__" := by decide) (hd' : (x' == ("__debug__" : Str)) = false := by decide)
    (h1 : starEach [e, .Tuple [.Name x p2, .Name x' p3] kt p4] X.env = (false, eval e X.env) :: starEach [.Tuple [.Name x p2, .Name x' p3] kt p4] X.env := by rfl) (h2 : starEach [.Tuple [.Name x p2, .Name x' p3] kt p4] X.env = (false, eval (.Tuple [.Name x p2, .Name x' p3] kt p4) X.env) :: starEach [] X.env := by rfl)
    (hpl : (backTo pos (starEach [.Tuple [.Name x p2, .Name x' p3] kt p4] X.env)).any (·.1) = false := by rfl)
    (h3 : starEach [.Name x p2, .Name x' p3] X.env = (false, eval (.Name x p2) X.env) :: starEach [.Name x' p3] X.env := by rfl) (h4 : starEach [.Name x' p3] X.env = (false, eval (.Name x' p3) X.env) :: starEach [] X.env := by rfl) :
    XE X T W (.Call (.Name "isinstance" p) [e, .Tuple [.Name x p2, .Name x' p3] kt p4] [] pos) (isiE [t, t'] fa) :=
  (pe_callB call_isiT hg hm hv (pa_cons he (pa_cons (pe_tup (pa_cons (pe_bltn (v := .ty t) hgt hmt hvt rfl hn hd) (pa_cons (pe_bltn (v := .ty t') hgt' hmt' hvt' rfl hn' hd') pa_nil h4) h3)) pa_nil h2) h1) (by decide) (by decide) h1 hpl).impQ fun σ H Q h => by
    obtain ⟨β, G, S, ρ, o, p⟩ := h
    refine ⟨β, G, S, ρ, o, Post.thn (Rl := RpV X.K T σ) p fun S1 H1 ρ1 v u e1 o1 h1 p1 => ?_⟩
    split at p1
    · rename_i d q
      split at p1
      · rename_i hno
        refine ⟨by show 2 ≤ sizeLine; rw [sizeLine_eq]; decide, fun a ha => ⟨u, a, [.ty t, .ty t'], .type (tyName d), [.type t, .type t'], [t, t'].any (isiB d), rfl, upd_same, .cons (.ty t) (.cons (.ty t') .nil), ?_, ?_, ?_⟩⟩
        · have e3 := Ext.skip (o := .tup [.ty t, .ty t']) o1.sh ha
          have h3 : RpH X.K T S1 (upd H1 a (.tup [.ty t, .ty t'])) d u := by
            rcases o1.res h1 q with z | ⟨b, vs, xs, z1, z2, z3, z4⟩
            · exact .inl z
            · exact .inr ⟨b, vs, xs, z1, z2, same_new ha _ _ z3, z4⟩
          exact h3.ty e3.sh hno
        · refine kitAny_cons (kit_ty (kb_all _ (ty_mem hno) t ht)) (fun hb => kitAny_cons (kit_ty (kb_all _ (ty_mem hno) t' ht')) (fun hb' => kitAny_nil.trans ?_) fun hb' => ?_) fun hb => ?_
          · simp only [isiB, List.any_cons, List.any_nil, Bool.or_false]; rw [hb, hb']; rfl
          · simp only [isiB, List.any_cons, List.any_nil, Bool.or_false]; rw [hb', Bool.or_true]
          · simp only [isiB, List.any_cons, List.any_nil, Bool.or_false]; rw [hb, Bool.true_or]
        · exact p1 S1 _ _ (Same.refl _) (o1.ext (Ext.skip o1.sh ha)) rfl
      · exact p1.elim
    · exact p1.elim
/-! ### keywords alone: f(k = v, ..), in the order of the parameters -/
def XK (X : Cx) (T : Tb) (W : WX) (kws : List Keyword) (f : Rho → R (List VD)) : Prop := PK X kws (rA X.K T W f)
theorem _root_.L2.PK.impQ {X : Cx} {e : List Keyword} {t t' : TA} (h : PK X e t) (i : ∀ σ H Q, t' σ H Q → t σ H Q) : PK X e t' := ⟨fun pos pins s σ H Q I w => h.run pos pins s σ H Q I (i σ H Q w)⟩
theorem xk_nil : XK X T W [] nilA := pk_nil.impQ fun σ H Q h => by
  obtain ⟨β, G, S, ρ, o, p⟩ := h
  exact p S H [] (Same.refl _) o rfl
theorem xk_cons {kws : List Keyword} {nm : Option Str} {kpos : Pos} (ha : XE X T W e fa) (hs : XK X T W kws fs) : XK X T W (⟨nm, e, kpos⟩ :: kws) (consA fa fs) := (pk_cons ha hs).impQ fun σ H Q h => by
  obtain ⟨β, G, S, ρ, o, p⟩ := h
  refine ⟨β, G, S, ρ, o, Post.thn (Rl := RpV X.K T σ) p fun S1 H1 ρ1 v u e1 o1 h1 p1 => ?_⟩
  refine ⟨β, G, S1, ρ1, o1, Post.thn (Rl := RpVs X.K T σ) p1 fun S2 H2 ρ2 vs us e2 o2 h2 p2 => ?_⟩
  exact p2 S2 H2 _ (Same.refl _) o2 ⟨u, us, rfl, h1.mono e2, h2⟩
/-- how keywords alone bind -/
def KwB (K : PySem.W.Frag) (fd : FuncData) (ps : List Str) : Prop := ∀ (s : Shared) (ws : List Value), K.In s.heap → ws.length = ps.length → BindsTo s fd ⟨[], ps.zip ws⟩ (ps.zip ws)
theorem kwB_of {K : PySem.W.Frag} {x qual : Str} {st : Stmt} {f : Addr} {fd : FuncData} {ps : List Str} (F : Fun K x qual st f fd)
    (h : ∀ (kV doc pm : Value) (an : Option Addr) (cdv ct : Value) (ws : List Value), ws.length = ps.length → bindArgs (PySem.W.fnOf x qual (defArgs st) (defBody st) (defScope st) .none kV doc pm an cdv ct) ⟨[], ps.zip ws⟩ = pure (ps.zip ws)) : KwB K fd ps := by
  obtain ⟨oc, od, kV, doc, pm, an, cdv, ct, osl, rfl, lk, hcd⟩ := F.ex
  exact fun s ws _ hl => .of_eq (h kV doc pm an cdv ct ws hl)
theorem pe_kw0 {CX : CXT} {k : Nat} {f : Addr} {fd : FuncData} {ps : List Str} {sp : Sp} {E : L2.St → L2.XK} {x : Str} {p : Pos} {kws : List Keyword} {tk : TA} (Fk : FnOk X.prog X.w X.K X.mg X.base CX k f fd ps sp) (hr : Room k X.A) (hg : L2.Gl X x) (hm : X.mg x = some (.ref f)) (hk : PySem.W.keepIn X.K (.ref f) = true) (hb : KwB X.K fd ps) (hx : ∀ σ, PassesAt CX X σ (E σ))
    (hkw : PK X kws tk) (hall : (backToKw pos (keywordEach kws X.env)).all (·.1.isSome) = true := by rfl) (hks : (backToKw pos (keywordEach kws X.env)).filterMap (·.1) = ps := by rfl)
    (hdb : (x == ("__debug__" : Str)) = false := by decide) (hpl : ((backTo pos (starEach [] X.env)).any (·.1) || (backToKw pos (keywordEach kws X.env)).any (·.1.isNone)) = false := by rfl) :
    PE X (.Call (.Name x p) [] kws pos) (tCallS sp E tk) := by
  refine ⟨fun pins s σ H Q I h => wpAny_Call_Name_kw (ld_glob I hg hm ?_ hdb)⟩
  refine PySem.W.callWith_KW0 (h₀ := X.base) I.ok.mod.kin hk hall (thn (hkw.run pos pins s σ H _ I h) fun ws s2 ⟨zs, H2, I2, rz, q2⟩ => ⟨I2.kIn, ?_⟩) hpl
  rw [hks]
  have hl : ws.length = ps.length := by rw [← rz.length]; exact Fk.len _ _ _ _ q2
  refine wpAny_call (codeAny_mono (Fk.run X.A X.stack s2 H2 ⟨[], ps.zip ws⟩ ws zs Q (E σ) hr I2.env0 (hb s2 ws I2.kIn hl) rz q2) fun r s' hq => ?_)
  cases r with
  | error e => exact hx σ pins H2 s2 e s' I2 hq
  | ok fl => cases fl with
    | ret u => exact I2.after hq
    | _ => exact hq.elim
theorem xe_callKw {F : List D → Res} {k : Nat} {f : Addr} {fd : FuncData} {ps : List Str} {n : Nat} {x : Str} {p : Pos} {kws : List Keyword} (Fk : FnOk X.prog X.w X.K X.mg X.base (L2.CX X.prog X.w) k f fd ps (spP X.K T n F)) (hr : Room k X.A) (hm : X.mg x = some (.ref f)) (hk : PySem.W.keepIn X.K (.ref f) = true) (hb : KwB X.K fd ps)
    (tk : Takes X W) (hn : ∀ ds, F ds ≠ .bad → ds.length = n) (ha : XK X T W kws fs) (hg : L2.Gl X x := by rfl) (hall : (backToKw pos (keywordEach kws X.env)).all (·.1.isSome) = true := by rfl) (hks : (backToKw pos (keywordEach kws X.env)).filterMap (·.1) = ps := by rfl)
    (hdb : (x == ("__debug__" : Str)) = false := by decide) (hpl : ((backTo pos (starEach [] X.env)).any (·.1) || (backToKw pos (keywordEach kws X.env)).any (·.1.isNone)) = false := by rfl) :
    XE X T W (.Call (.Name x p) [] kws pos) (callE F fs) :=
  (pe_kw0 Fk hr hg hm hk hb (fun σ => passAt tk σ) ha hall hks hdb hpl).impQ fun _ _ _ h => call_of hn h
end
/-! ### defs that hand back a new list; the box made anew -/
def spL (K : PySem.W.Frag) (T : Tb) (n : Nat) (F : List D → Option (List D)) : Sp := fun vs H Q _ => ∃ S ds, SameT T S H ∧ Rps K T S ds vs ∧ ds.length = n ∧ match F ds with
  | some xs => Gf K T S H xs Q
  | none => False
section
variable {X : Cx} {T : Tb} {W : WX} {e e0 : Expr} {es : List Expr} {fa : Rho → R VD} {fs : Rho → R (List VD)} {pos : Pos}
def callL (F : List D → Option (List D)) (fs : Rho → R (List VD)) : Rho → R (List D) := fun ρ => (fs ρ).bind fun vs ρ1 => match datAll vs with
  | some ds => (match F ds with | some xs => .ok xs ρ1 | none => .bad)
  | none => .bad
theorem xf_call {F : List D → Option (List D)} {k : Nat} {f : Addr} {fd : FuncData} {ps : List Str} {n : Nat} {x : Str} {p : Pos} (Fk : FnOk X.prog X.w X.K X.mg X.base (L2.CX X.prog X.w) k f fd ps (spL X.K T n F)) (hr : Room k X.A) (hm : X.mg x = some (.ref f)) (hk : PySem.W.keepIn X.K (.ref f) = true) (hb : Binds X.K fd ps [])
    (tk : Takes X W) (hn : ∀ ds, F ds ≠ none → ds.length = n) (ha : XA X T W (e :: es) fs) (hg : L2.Gl X x := by rfl) (hdb : (x == ("__debug__" : Str)) = false := by decide) (he : starEach (e :: es) X.env = (false, eval e X.env) :: starEach es X.env := by rfl) (hpl : (backTo pos (starEach es X.env)).any (·.1) = false := by rfl) :
    XF X T W (.Call (.Name x p) (e :: es) [] pos) (callL F fs) :=
  (pe_callS Fk hr hg hm hk hb (fun σ => passAt tk σ) ha hdb he hpl).impQ fun σ H Q h => by
    obtain ⟨β, G, S, ρ, o, p⟩ := h
    refine ⟨β, G, S, ρ, o, PostF.thn (Rl := RpVs X.K T σ) p fun S1 H1 ρ1 vs us e1 o1 h1 p1 => ?_⟩
    split at p1
    · rename_i ds q
      refine ⟨S1, ds, o1.sh, datAll_rps q h1, hn ds (fun z => by rw [z] at p1; exact p1), ?_⟩
      revert p1
      cases F ds with
      | none => exact fun p1 => p1
      | some xs => exact fun p1 => p1.gf o1
    · exact p1.elim
theorem Ok.extF {K : PySem.W.Frag} {β : Bt} {G S S' H H' : Hp} {σ : L2.St} {ρ : Rho} {b : Addr} {ns' : List Int} (o : Ok K T β G S σ ρ H) (fr : Fre β G S σ ρ b) {us : List V} (hbl : H b = some (.lst us)) (e : ExtB T b ns' S H S' H') : Ok K T β G S' σ ρ H' where
  sh := e.sh
  gh := e.gh o.gh fr.g
  gs := fun c u q n => e.gs o.gh q n (o.gs c u q n)
  gb := fun c q => by
    obtain ⟨ms, hb, hn⟩ := o.bx c q
    exact ⟨(o.gb c q).1, (e.fr c _ hb hn ((o.gb c q).2))⟩
  bx := fun c q => by
    obtain ⟨ms, hb, hn⟩ := o.bx c q
    exact e.hs (fun z => fr.b (by rw [q, z])) hb hn
  len := o.len
  cel := fun j c q => by
    have h1 := o.cel j c q
    cases c with
    | no => trivial
    | d x => obtain ⟨u, e1, r⟩ := h1; exact ⟨u, e1, Rp.mono e.s _ _ r⟩
    | m xs =>
      obtain ⟨a, vs, e1, e2, e3, e4, e5, r⟩ := h1
      exact ⟨a, vs, e1, e.h _ _ (fun z => fr.sl j xs q (by rw [e1, z])) e2, (e.fr _ _ e2 (fun _ z => nomatch z) e3), e4, e5, Rps.mono e.s _ _ r⟩
    | k l =>
      obtain ⟨a, kvs, e1, e2, e3, e4, e5, ek, r⟩ := h1
      exact ⟨a, kvs, e1, e.h _ _ (fun z => fr.sk j l q (by rw [e1, z])) e2, (e.fr _ _ e2 (fun _ z => nomatch z) e3), e4, e5, ek, Rps.mono e.s _ _ r⟩
    | kt l =>
      obtain ⟨a, kvs, e1, e2, e3, e4, e5, ek, r⟩ := h1
      exact ⟨a, kvs, e1, e.h _ _ (fun z => fr.skt j l q (by rw [e1, z])) e2, (e.fr _ _ e2 (fun _ z => nomatch z) e3), e4, e5, ek, Rps.mono e.s _ _ r⟩
    | b ms =>
      obtain ⟨a, e1, e2, e3⟩ := h1
      exact ⟨a, e1, e2, e.h _ _ (fun z => fr.b (by rw [e2, z])) e3⟩
    | z => first | exact h1 | exact h | (obtain ⟨_, _, _, e2⟩ := h1; cases e2) | cases hpi | cases hk' | cases pl
    | s t =>
      obtain ⟨a, dx, e1, e2, e3, e4, e5, e6, e7, e8⟩ := h1
      exact ⟨a, dx, e1, e2, e.h _ _ (fun z => by rw [z, hbl] at e3; cases e3) e3, e.h _ _ (fun z => by rw [z, hbl] at e4; cases e4) e4, (e.fr _ _ e4 (fun _ z => nomatch z) e5), e6, (e.fr _ _ e3 (fun _ z => nomatch z) e7), e8⟩
  dis := o.dis
/-- f(new list): the list is f's box -/
def callNew (F : List Int → List D → Option (D × List Int)) (f : Rho → R (List D)) : Rho → R VD := fun ρ => (f ρ).bind fun ds ρ1 => match allOf D.int? ds with
  | some ns => (match F ns [] with | some (d, _) => .ok (.d d) ρ1 | none => .bad)
  | none => .bad
theorem xe_callNew {F : List Int → List D → Option (D × List Int)} {k : Nat} {f : Addr} {fd : FuncData} {ps : List Str} {x : Str} {p : Pos} {ff : Rho → R (List D)} (Fk : FnOk X.prog X.w X.K X.mg X.base (L2.CX X.prog X.w) k f fd ps (spB X.K T 0 F)) (hr : Room k X.A) (hm : X.mg x = some (.ref f)) (hk : PySem.W.keepIn X.K (.ref f) = true) (hb : Binds X.K fd ps [])
    (tk : Takes X W) (ha : XF X T W e ff) (hg : L2.Gl X x := by rfl) (hdb : (x == ("__debug__" : Str)) = false := by decide) (he : starEach [e] X.env = (false, eval e X.env) :: starEach [] X.env := by rfl) (hpl : (backTo pos (starEach [] X.env)).any (·.1) = false := by rfl) :
    XE X T W (.Call (.Name x p) [e] [] pos) (callNew F ff) :=
  (pe_callS Fk hr hg hm hk hb (fun σ => passAt tk σ) (pa_cons ha pa_nil he) hdb he hpl).impQ fun σ H Q h => by
    obtain ⟨β, G, S, ρ, o, p⟩ := h
    refine ⟨β, G, S, ρ, o, ?_⟩
    unfold callNew at p
    revert p
    cases ff ρ with
    | bad => exact fun p => p
    | err x ρ1 => exact fun p => p
    | ok ds ρ1 =>
      intro p S1 H1 b vs e1 o1 fr hv r
      dsimp only [R.bind] at p
      cases q : allOf D.int? ds with
      | none => rw [q] at p; exact p.elim
      | some ns =>
        rw [q] at p
        have ez := allOf_ints q
        subst ez
        have := r.intsV
        subst this
        refine ⟨S1, b, ns, [], [], rfl, o1.sh, fr.s, hv, rfl, rfl, ?_⟩
        dsimp only at p
        revert p
        cases F ns [] with
        | none => exact fun p => p.elim
        | some dn => exact fun p S2 H2 v x2 rv => p S2 H2 v (e1.trans x2.s) (o1.extF fr hv x2) rv
end
section
variable {P : Program} {w : World} {K : PySem.W.Frag} {mg : Str → Option Value} {base : Heap} {T : Tb}
def runL (a n : Nat) (f : Rho → O) (ds : List D) : Option (List D) := if ds.length = a then (match f (startR n ds) with
  | .rf xs _ => some xs
  | _ => none) else none
theorem runL_len {a n : Nat} {f : Rho → O} (ds : List D) (h : runL a n f ds ≠ none) : ds.length = a := by
  unfold runL at h
  split at h
  · assumption
  · exact (h rfl).elim
theorem fn_new {x qual : Str} {st : Stmt} {f : Addr} {fd : FuncData} {N ps : List Str} {k : Nat} {g : Rho → O} (F : Fun K x qual st f fd) (Sc : FnScope N ps (defScope st))
    (hbody : ∀ (cdv : Value) (A : Around) (outer : List PySem.Env) (s : Shared) (H : Hp) (E : L2.XK), Room k (A.deeper (envOfC qual (defScope st) s.heap.objs.size f cdv)) →
      PassesOwn (model P w) (cxOf (L2.CX P w) P w K mg base N qual (defScope st) f cdv A outer s H E).A (cxOf (L2.CX P w) P w K mg base N qual (defScope st) f cdv A outer s H E).env (cxOf (L2.CX P w) P w K mg base N qual (defScope st) f cdv A outer s H E).xe →
      XB (cxOf (L2.CX P w) P w K mg base N qual (defScope st) f cdv A outer s H E) T W0 (defBody st) g) :
    FnOk P w K mg base (L2.CX P w) (k + 1) f fd ps (spL K T ps.length (runL ps.length N.length g)) := by
  refine F.okX Sc (fun vs H Q E h => ?_) (fun cdv A outer s H vs Q E hr h => ?_)
  · obtain ⟨S, ds, e, r, hl, _⟩ := h
    rw [r.len, hl]
  · obtain ⟨S, ds, e, r, hl, p⟩ := h
    refine ⟨_, hbody cdv A outer s H E hr (passes_of rfl), .no, besides S H, S, startR N.length ds, ?_, ?_⟩
    · refine ⟨e, besides_same, fun b o q _ => besides_apart q, fun b q => (nomatch q), fun b q => (nomatch q), ?_, fun i c q => start_cell r q, fun i j xs ys q => (start_noM q).elim⟩
      unfold L2.start startR
      rw [List.length_append, List.length_append, List.length_map, List.length_map, List.length_replicate, List.length_replicate, r.len]
    · unfold runL at p
      rw [if_pos hl] at p
      revert p
      cases g (startR N.length ds) with
      | rf ds' ρ' =>
        intro p S' σ' H' a vs' e1 o fr hv r'
        have x1 : Ext T S H S' H' := ext_of e e1 o.sh o.gh o.gs
        refine p S' H' a vs' x1 ?_ fr.s hv r'
        cases z : H a with
        | none => rfl
        | some u =>
          exfalso
          cases y : S a with
          | none => have := fr.g; rw [besides_of z y] at this; cases this
          | some u' => rw [x1.s.free fr.s] at y; cases y
      | nx ρ' => exact fun p => p.elim
      | rt v ρ' => exact fun p => p.elim
      | err x ρ' => exact fun p => p.elim
      | bk ρ' => exact fun p => p.elim
      | ct ρ' => exact fun p => p.elim
      | bad => exact fun p => p.elim
end
end Lq
namespace Lq
open PySem PySem.Spec PyProof.Rows L2
/-- x[k] = e, x a slot's own list or the box -/
def isMB : Option Cell → Bool
  | some (.m _) => true
  | some (.b _) => true
  | _ => false
def putS1 (i : Nat) (v kk : VD) (ρ : Rho) : O := match ρ[i]?, v, kk with
  | some (.m xs), .d y, .d (.int k) => (match ixN xs.length k with | some j => .nx (ρ.set i (.m (xs.set j y))) | none => .bad)
  | some (.b ns), .d (.int y), .d (.int k) => if onlyB i ρ then (match ixN ns.length k with | some j => .nx (ρ.set i (.b (ns.set j y))) | none => .bad) else .bad
  | _, _, _ => .bad
def putItem (i : Nat) (fe fk : Rho → R VD) : Rho → O := fun ρ => (fe ρ).thnO fun v ρ1 => if isMB ρ1[i]? then ((fk ρ1).thnO fun kk ρ2 => putS1 i v kk ρ2) else .bad
section
variable {X : Cx} {T : Tb} {W : WX} {e k : Expr} {fe fk : Rho → R VD} {pos px ps : Pos} {x : Str}
theorem xs_item (i : Nat) (he : XE X T W e fe) (hk : XE X T W k fk) (hN : X.N[i]? = some x := by rfl) (hv : Vis X.env.scope x := by first | exact Or.inl rfl | exact Or.inr (Or.inl rfl) | exact Or.inr (Or.inr rfl)) (hd : (x == ("__debug__" : Str)) = false := by decide) (hcd : (x == ("__classdict__" : Str)) = false := by decide)
    (ha : ∀ v, assign (.Subscript (.Name x px) k ps) X.env v = (do
      let ov ← holding [v] (eval (.Name x px) X.env)
      let iv ← holding [v, ov] (eval k X.env)
      standAt ps
      holding [v, ov, iv] (setItem ov iv v)
      release [v, ov, iv] []) := by intro _; rfl)
    (hs : swapsWithSole [.Subscript (.Name x px) k ps] e pos.line X.env = pure false := by rfl) (hw : swappedStores [.Subscript (.Name x px) k ps] e X.env = pure none := by rfl)
    (h1 : (assignEach [.Subscript (.Name x px) k ps] X.env).map (·.2) = [assign (.Subscript (.Name x px) k ps) X.env] := by rfl) : XS X T W (.Assign [.Subscript (.Name x px) k ps] e pos) (putItem i fe fk) :=
  (ps_asg he (pg_sub (pe_var hN hv hd hcd) hk set_list ha) hs hw h1).impQ fun De σ H q => by
    obtain ⟨β, G, S, ρ, o, p⟩ := q
    refine ⟨β, G, S, ρ, o, PostS.thn (Rl := RpV X.K T σ) p fun S1 H1 ρ1 v u e1 o1 h1 p1 => ?_⟩
    have hslot : isMB ρ1[i]? = true → ∃ a, σ[i]? = some (some (.ref a)) := fun hm => by
      cases q1 : ρ1[i]? with
      | none => rw [q1] at hm; cases hm
      | some c =>
        rw [q1] at hm
        cases c with
        | m xs => obtain ⟨a, _, ea, _⟩ := o1.cel i _ q1; exact ⟨a, ea⟩
        | b ns => obtain ⟨a, ea, _⟩ := o1.cel i _ q1; exact ⟨a, ea⟩
        | no => cases hm
        | d _ => cases hm
        | s _ => cases hm
        | z => cases hm
        | k _ => cases hm
        | kt _ => cases hm
    by_cases hm : isMB ρ1[i]? = true
    · rw [if_pos hm] at p1
      obtain ⟨a, ea⟩ := hslot hm
      refine ⟨.ref a, ea, β, G, S1, ρ1, o1, PostS.thn (Rl := RpV X.K T σ) p1 fun S2 H2 ρ2 kk u2 e2 o2 h2 p2 => ?_⟩
      unfold putS1 at p2
      split at p2
      · rename_i xs y kz q2
        split at p2
        · rename_i j hj
          obtain ⟨b, ws, f1, f2, f3, f4, f5, r⟩ := o2.cel i _ q2
          rw [ea] at f1; cases f1
          refine ⟨a, ws, kz, j, rfl, h2, f2, by rw [r.len]; exact hj, ?_⟩
          exact p2 S2 σ _ (Same.refl _) (o2.updM q2 ea (r.set j (Rp.mono e2 _ _ h1)))
        · exact p2.elim
      · rename_i ns y kz q2
        split at p2
        · rename_i hob
          split at p2
          · rename_i j hj
            obtain ⟨b, f1, f2, f3⟩ := o2.cel i _ q2
            rw [ea] at f1; cases f1
            subst f2
            refine ⟨a, ns.map V.int, kz, j, rfl, h2, f3, by rw [List.length_map]; exact hj, ?_⟩
            have hu : u = .int y := h1
            subst hu
            have es : (ns.map V.int).set j (.int y) = (ns.set j y).map V.int := by rw [List.map_set]
            rw [es]
            refine p2 S2 σ _ (Same.refl _) (o2.extB ⟨Same.refl _, fun c o' hc q _ => by rw [upd_ne hc]; exact q, fun c ps hc q => ⟨ps, by rw [upd_ne hc]; exact q⟩, upd_same, o2.sh.step (Keep.upd f3) fun c o' q => ?_, fun c o' q _ z => z⟩ q2 hob)
            have hc : c ≠ a := fun z => by subst z; rw [(o2.gb c rfl).2] at q; cases q
            exact .inr ⟨q, upd_ne hc⟩
          · exact p2.elim
        · exact p2.elim
      · exact p2.elim
    · rw [if_neg hm] at p1; exact p1.elim
end
/-- a constant of the module: a tuple of texts -/
theorem rp_kstrs {K : PySem.W.Frag} {T : Tb} {a : Addr} {o : Obj} {its : Array Value} {n : Nat} {ss : List Str} (hk : K.lookup a = some o) (hc : o.cls = .type "tuple") (hd : o.data = .seq its n) (hz : its.size ≤ sizeLine) (hv : Vals (ss.map V.str) its.toList) (S : Hp) : Rp K T S (.tup (ss.map D.str)) (.ref a) :=
  ⟨a, ss.map V.str, rfl, .inr ⟨o, its, n, hk, hc, hd, hz, hv⟩, Rps.strs ss⟩
end Lq
namespace Lq
open PySem PySem.Spec PyProof.Rows L2
/-! ### sorted of a list or a tuple, by what the library says of gathering -/
/-! ### sorted lists of data -/
def insS (x : Str) : List Str → List Str
  | [] => [x]
  | y :: r => if decide (y.cps.toList < x.cps.toList) then y :: insS x r else x :: y :: r
def sortStrs : List Str → List Str
  | [] => []
  | x :: r => insS x (sortStrs r)
def insI (x : Int) : List Int → List Int
  | [] => [x]
  | y :: r => if decide (y < x) then y :: insI x r else x :: y :: r
def sortInts : List Int → List Int
  | [] => []
  | x :: r => insI x (sortInts r)
end Lq
namespace Lq
open PySem PySem.Spec PyProof.Rows L2
def SqA (K : PySem.W.Frag) (H : Hp) (a : Addr) (xs : List V) : Prop := SqL K H a xs ∨ SqT K H a xs
/-- ints, or texts -/
def sortDs (xs : List D) : Option (List D) := match allOf D.int? xs with
  | some ns => some ((sortInts ns).map D.int)
  | none => (match allOf D.str? xs with
    | some ss => some ((sortStrs ss).map D.str)
    | none => none)
def sortedF : List D → Option (List D)
  | [x] => (match x.items? with | some xs => sortDs xs | none => none)
  | _ => none
/-! ### t[::-1] -/
section
variable {prog : Program} {w : World} {A : Around} {E : Value → Shared → Prop} {s : Shared}
theorem back_pick (xs : List Value) : ((List.range xs.length).filterMap fun (m : Nat) => xs.toArray[(((xs.length : Int) - 1) + (m : Int) * (-1)).toNat]?) = xs.reverse := by
  apply List.ext_getElem?
  intro i
  have hm : ∀ l : List Nat, (∀ m ∈ l, m < xs.length) → (l.filterMap fun (m : Nat) => xs.toArray[(((xs.length : Int) - 1) + (m : Int) * (-1)).toNat]?) = l.map fun m => xs.getD (xs.length - 1 - m) .none := by
    intro l
    induction l with
    | nil => intro _; rfl
    | cons m r ih =>
      intro hl
      have h1 := hl m List.mem_cons_self
      have e1 : (((xs.length : Int) - 1) + (m : Int) * (-1)).toNat = xs.length - 1 - m := by omega
      have e2 : xs.toArray[xs.length - 1 - m]? = some (xs.getD (xs.length - 1 - m) .none) := by
        rw [List.getElem?_toArray, List.getD_eq_getElem?_getD, List.getElem?_eq_getElem (by omega)]; rfl
      rw [List.filterMap_cons, e1, e2, List.map_cons, ih fun z hz => hl z (List.mem_cons_of_mem _ hz)]
  rw [hm _ fun m h => List.mem_range.mp h]
  by_cases hi : i < xs.length
  · rw [List.getElem?_map, List.getElem?_range hi, List.getElem?_reverse hi, Option.map_some, List.getD_eq_getElem?_getD, List.getElem?_eq_getElem (by omega)]
    rfl
  · rw [List.getElem?_eq_none (by simpa using hi), List.getElem?_eq_none (by simpa using hi)]
theorem back_tuple {t sl : Addr} {xs : List Value} {vu : Value} {Q : Value → Shared → Prop} (ht : IsTup s.heap t xs.toArray) (hs : s.heap.IsSliceOf sl .none .none vu) (pu : IsPart vu (some (-1))) (hsz : xs.length ≤ sizeLine)
    (h : Q (.ref s.heap.objs.size) { s with heap := s.heap.push { cls := .type "tuple", data := .seq xs.reverse.toArray } }) : wpAny (model prog w) A (getItem (.ref t) (.ref sl)) Q E s := by
  have hfit : sizeOk (.seq xs.reverse.toArray) := by
    show xs.reverse.toArray.size ≤ sizeLine
    rw [List.size_toArray, List.length_reverse]; exact hsz
  obtain ⟨ob, hob, hcl, hdt⟩ := id hs
  have hty : s.TypeIs (.ref sl) "slice" := ⟨ob, hob, hcl⟩
  unfold getItem
  try with_reducible refine wpAny_holding ?_
  first | refine wpAny_bind (wpAny_pure ?_) | skip
  refine wpAny_bind (wpAny_sequenceKey ht.typeIs (by decide) (wpAny_bind (wpAny_callSpecial?_slot (name := Str.ofString "__getitem__") ht.typeIs PyProof.Rows.slot_tuple_getitem
    (wpAny_call_entry PyProof.Rows.slot_tuple_getitem ht.typeIs entry_tuple_getitem (show wpAny _ _ (Builtin.Tuple.tupleItemsOf (.ref t) >>= _) _ _ s from ?_) (args_tuple_getitem _ _)))))
  refine wpAny_bind (tupleItemsOf_ ht (wpAny_bind (wpAny_typeOf hty ?_)))
  rw [if_pos (by decide)]
  have happ : ∀ {Q' : Int × Int × Nat → Shared → Prop}, Q' ((xs.length : Int) - 1, -1, xs.length) s → wpAny (model prog w) A.in1 (Builtin.Slice.sliceApplied (.ref sl) (pure ((xs.toArray.size : Nat) : Int))) Q' E s := fun {Q'} hq => by
    unfold Builtin.Slice.sliceApplied Builtin.Slice.sliceFields
    refine wpAny_bind (wpAny_bind (wpAny_field hob hdt (x := .none) rfl (wpAny_bind (wpAny_field hob hdt (x := .none) rfl (wpAny_bind (wpAny_field hob hdt (x := vu) rfl (wpAny_pure ?_)))))))
    refine wpAny_bind (HT.slicePart_ pu (show wpAny _ _ (if ((-1 : Int) == 0) = true then _ else _) _ _ s from ?_))
    rw [if_neg (by decide)]
    refine wpAny_bind (slicePart_none (wpAny_bind (slicePart_none (wpAny_bind (wpAny_pure ?_)))))
    have ea : Builtin.Slice.sliceAdjust none none (-1) ((xs.toArray.size : Nat) : Int) = ((xs.length : Int) - 1, -1) := by
      unfold Builtin.Slice.sliceAdjust
      simp
    have ep : Builtin.Slice.slicePlaces ((xs.length : Int) - 1) (-1) (-1) = xs.length := by
      unfold Builtin.Slice.slicePlaces
      have h1 : ¬ ((-1 : Int) > 0) := by omega
      simp only [h1, if_false, Int.neg_neg, Int.ediv_one]
      split <;> omega
    show wpAny _ _ (match Builtin.Slice.sliceAdjust none none (-1) ((xs.toArray.size : Nat) : Int) with | (lo, hi) => pure (lo, (-1 : Int), Builtin.Slice.slicePlaces lo hi (-1))) _ _ s
    rw [ea]
    show wpAny _ _ (pure ((xs.length : Int) - 1, (-1 : Int), Builtin.Slice.slicePlaces ((xs.length : Int) - 1) (-1) (-1))) _ _ s
    rw [ep]
    exact wpAny_pure hq
  refine wpAny_bind (happ ?_)
  have hno : ¬ ((((xs.length : Int) - 1) == 0 && (-1 : Int) == 1 && xs.length == xs.toArray.size) = true) := by
    intro z
    rw [Bool.and_eq_true, Bool.and_eq_true] at z
    exact absurd z.1.2 (by decide)
  show wpAny _ _ (if ((((xs.length : Int) - 1) == 0 && (-1 : Int) == 1 && xs.length == xs.toArray.size) = true) then _ else _) _ _ s
  rw [if_neg hno, back_pick]
  first
    | exact wpAny_bind (m := Builtin.Tuple.tupleExact _) (wpAny_newObj_type (wpAny_pure ⟨_, rfl, wpAny_pure h⟩) hfit)
    | exact wpAny_bind (m := Builtin.Tuple.tupleExact _) (wpAny_newObj_type (wpAny_bind (wpAny_pure (wpAny_pure ⟨_, rfl, wpAny_pure h⟩))) hfit)
    | exact wpAny_bind (wpAny_bind (m := Builtin.Tuple.tupleExact _) (wpAny_newObj_type (wpAny_pure (wpAny_pure ⟨_, rfl, wpAny_pure h⟩)) hfit))
    | exact wpAny_bind (wpAny_bind (m := Builtin.Tuple.tupleExact _) (wpAny_newObj_type (wpAny_pure ⟨_, rfl, wpAny_pure h⟩) hfit))
end
def tRevT (K : PySem.W.Frag) (te : TE) : TE := fun σ H Q => te σ H fun x H1 => ∃ a xs, x = .ref a ∧ ((SqL K H1 a xs ∧ ∀ p, H1 p = none → Q (.ref p) (upd H1 p (.lst xs.reverse))) ∨ (SqT K H1 a xs ∧ ∀ p, H1 p = none → Q (.ref p) (upd H1 p (.tup xs.reverse))))
section
variable {X : Cx} {T : Tb} {W : WX} {e : Expr} {es : List Expr} {fa : Rho → R VD} {fs : Rho → R (List VD)} {pos : Pos}
theorem pe_back {te : TE} {k : Nat} {p1 p2 p3 : Pos} (he : PE X e te) : PE X (.Subscript e (.Slice none none (some (.UnaryOp .USub (.Constant (.int 1) k p1) p2)) p3) pos) (tRevT X.K te) := by
  refine ⟨fun pins s σ H Q I h => Subscript_ (thn (he.run pins s σ H _ I h) fun v s1 ⟨x, H1, I1, r1, q1⟩ => ?_)⟩
  obtain ⟨a, xs, rfl, q1⟩ := q1
  cases r1
  have hneg : PO X (some (.UnaryOp .USub (.Constant (.int 1) k p1) p2)) (tPart (tUn (rU fun i => .int (-i)) (tC (.int 1)))) := po_some (pe_un un_neg pe_int)
  refine wpAny_Slice (thn (po_none.run pins s1 σ H1 (fun o H2 => o = none ∧ H2 = H1) I1 ⟨rfl, rfl⟩) fun vl s2 ⟨l, H2, I2, pl, el, e2⟩ => ?_)
  subst el e2
  refine thn (po_none.run pins s2 σ H2 (fun o H3 => o = none ∧ H3 = H2) I2 ⟨rfl, rfl⟩) fun vh s3 ⟨u, H3, I3, ph, eu, e3⟩ => ?_
  subst eu e3
  refine thn (hneg.run pins s3 σ H3 (fun o H4 => o = some (-1) ∧ H4 = H3) I3 ⟨1, rfl, -1, rfl, rfl, rfl⟩) fun vs s4 ⟨o, H4, I4, ps, eo, e4⟩ => ?_
  subst eo e4
  cases pl
  cases ph
  have I5 : Inv X pins σ H4 { s4 with heap := s4.heap.push { cls := .type "slice", data := .fields #[.none, .none, vs] } } := I4.kept (t' := s4.toks) fun b ob q => Heap.get?_push_of_some _ q
  show wpAny (model X.prog X.w) X.A (subscriptTail e (.Slice none none (some (.UnaryOp .USub (.Constant (.int 1) k p1) p2)) p3) (.ref a) (.ref s4.heap.objs.size)) (EP X pins σ Q) X.xe { s4 with heap := s4.heap.push { cls := .type "slice", data := .fields #[.none, .none, vs] } }
  rcases q1 with ⟨hx, q⟩ | ⟨hx, q⟩
  · obtain ⟨its, r, ht, hz⟩ := I5.list hx
    have hn := r.length
    refine tail_any (ops := [.ref a, .ref s4.heap.objs.size]) ht.isList.typeIs (PySem.slot_list_getitem.lookup) (wpAny_getItem_list_slice ht.isList (Heap.IsSliceOf.new _ .none .none vs) .none .none ps (by decide) ?_ (by rw [List.size_toArray]; omega)) (by with_unfolding_all rfl)
    rw [PySem.W.krv_pick]
    exact ⟨.ref _, _, I5.laid (t' := s4.toks) (o := .lst xs.reverse) (fun b ob q => Heap.get?_push_of_some _ q) (Nat.le_refl _) ⟨by rw [List.length_reverse]; exact hz, _, 0, r.reverse, Heap.get?_push_size _ rfl⟩, rfl, q _ (I5.hok.fresh (Nat.le_refl _))⟩
  · obtain ⟨its, r, ht, hz⟩ := I5.tuple hx
    have hn := r.length
    refine tail_any (ops := [.ref a, .ref s4.heap.objs.size]) ht.typeIs (PyProof.Rows.slot_tuple_getitem.lookup) (back_tuple ht (Heap.IsSliceOf.new _ .none .none vs) ps (by omega) ?_) (by with_unfolding_all rfl)
    exact ⟨.ref _, _, I5.laid (t' := s4.toks) (o := .tup xs.reverse) (fun b ob q => Heap.get?_push_of_some _ q) (Nat.le_refl _) ⟨by rw [List.length_reverse]; exact hz, _, r.reverse, IsTup.new _ _⟩, rfl, q _ (I5.hok.fresh (Nat.le_refl _))⟩
def revD : D → Option D
  | .lst xs => some (.lst xs.reverse)
  | .tup xs => some (.tup xs.reverse)
  | _ => none
theorem xe_back {k : Nat} {p1 p2 p3 : Pos} (he : XE X T W e fa) : XE X T W (.Subscript e (.Slice none none (some (.UnaryOp .USub (.Constant (.int 1) k p1) p2)) p3) pos) (op1E revD fa) := (pe_back he).impQ fun σ H Q h =>
  tUn_of (r := fun x H1 Q => ∃ a xs, x = .ref a ∧ ((SqL X.K H1 a xs ∧ ∀ p, H1 p = none → Q (.ref p) (upd H1 p (.lst xs.reverse))) ∨ (SqT X.K H1 a xs ∧ ∀ p, H1 p = none → Q (.ref p) (upd H1 p (.tup xs.reverse))))) (fun S H x dx d Q e hx h g => by
    unfold revD at h
    split at h
    · cases h
      obtain ⟨a, vs, rfl, q, r⟩ := hx.lst e
      exact ⟨a, vs, rfl, .inl ⟨SqL.of q, fun p hp => g.newL e r.reverse p hp⟩⟩
    · cases h
      obtain ⟨a, vs, rfl, q, r⟩ := hx.tup e
      exact ⟨a, vs, rfl, .inr ⟨q, fun p hp => g.newT e r.reverse p hp⟩⟩
    · cases h) h
/-! ### f() -/
theorem xe_call0 {F : List D → Res} {k : Nat} {f : Addr} {fd : FuncData} {x : Str} {p : Pos} (Fk : FnOk X.prog X.w X.K X.mg X.base (L2.CX X.prog X.w) k f fd [] (spP X.K T 0 F)) (hr : Room k X.A) (hm : X.mg x = some (.ref f)) (hk : PySem.W.keepIn X.K (.ref f) = true) (hb : KwB X.K fd [])
    (tk : Takes X W) (hn : ∀ ds, F ds ≠ .bad → ds.length = 0) (hg : L2.Gl X x := by rfl) (hdb : (x == ("__debug__" : Str)) = false := by decide) :
    XE X T W (.Call (.Name x p) [] [] pos) (callE F nilA) := xe_callKw Fk hr hm hk hb tk hn xk_nil hg rfl rfl hdb rfl
/-! ### a or b, a new list of either -/
def orF (f g : Rho → R (List D)) : Rho → R (List D) := fun ρ => (f ρ).bind fun ds ρ1 => if ds.isEmpty then g ρ1 else .ok ds ρ1
theorem xf_or {a b : Expr} {f g : Rho → R (List D)} (ha : XF X T W a f) (hb : XF X T W b g) : XF X T W (.BoolOp .Or [a, b] pos) (orF f g) := (pe_orT ha (pe_one hb)).impQ fun σ H Q h => by
  obtain ⟨β, G, S, ρ, o, p⟩ := h
  refine ⟨β, G, S, ρ, o, ?_⟩
  unfold orF at p
  revert p
  cases f ρ with
  | bad => exact fun p => p
  | err x ρ1 => exact fun p => p
  | ok ds ρ1 =>
    intro p S1 H1 a1 vs e1 o1 fr hv r
    dsimp only [R.bind] at p
    refine ⟨!vs.isEmpty, .inl ⟨vs, SqL.of hv, rfl⟩, ?_⟩
    have hl := r.len
    cases ds with
    | nil =>
      have : vs = [] := List.length_eq_zero_iff.mp hl
      subst this
      exact iteF ⟨β, G, S1, ρ1, o1, PostF.mono p e1⟩
    | cons d dr =>
      cases vs with
      | nil => cases hl
      | cons v vr => exact iteT (p S1 H1 a1 _ e1 o1 fr hv r)
end
theorem cx_no {P : Program} {w : World} {l : List PySem.Env} {H : Hp} {s s' : Shared} {e : Value} (h : L2.CX P w l H s (fun _ _ _ => False) e s') : False := by
  obtain ⟨_, _, _, _, _, _, _, _, _, _, _, _, z⟩ := h
  exact z
end Lq
namespace Lq
open PySem
/-! ### plain laws of the mirrors -/
theorem comp_all {vs : List Nat} {gd : D → Rho → Option Rho} {ft : Rho → R Bool} {fe : Rho → R VD} {g : D → List D} {ρ : Rho} : ∀ (ds acc : List D),
    (∀ d ∈ ds, (g d).length ≤ 1 ∧ ∀ acc' : List D, acc'.length + 1 ≤ 1000000 → ∃ ρ1, compTurn gd ft fe acc' d ρ = .ok (acc' ++ g d) ρ1 ∧ wipeR ρ1 vs = ρ) → acc.length + ds.length ≤ 1000000 →
    compLoop vs gd ft fe acc ds ρ = .ok (acc ++ ds.flatMap g) ρ
  | [], acc, _, _ => by simp [compLoop]
  | d :: ds, acc, h, hl => by
    obtain ⟨h1, h2⟩ := h d List.mem_cons_self
    rw [List.length_cons] at hl
    obtain ⟨ρ1, e1, e2⟩ := h2 acc (by omega)
    rw [compLoop, e1]
    dsimp only
    rw [e2, comp_all ds _ (fun z hz => h z (List.mem_cons_of_mem _ hz)) (by rw [List.length_append]; omega), List.flatMap_cons, List.append_assoc]
theorem flatMap_one {α β : Type} (f : α → β) (l : List α) : (l.flatMap fun x => [f x]) = l.map f := by
  induction l with
  | nil => rfl
  | cons x r ih => rw [List.flatMap_cons, ih]; rfl
theorem flatMap_if {α β : Type} (p : α → Bool) (f : α → β) (l : List α) : (l.flatMap fun x => if p x then [f x] else []) = (l.filter p).map f := by
  induction l with
  | nil => rfl
  | cons x r ih =>
    rw [List.flatMap_cons, ih, List.filter_cons]
    split <;> rfl
theorem allOf_map_int (l : List Int) : allOf D.int? (l.map D.int) = some l := by
  induction l with
  | nil => rfl
  | cons x r ih => rw [List.map_cons, allOf]; simp [D.int?, ih]
theorem allOf_map_bl (l : List Bool) : allOf D.bl? (l.map D.bl) = some l := by
  induction l with
  | nil => rfl
  | cons x r ih => rw [List.map_cons, allOf]; simp [D.bl?, ih]
def isT : Res → Bool
  | .ok (.bl true) => true
  | _ => false
theorem isT_of {r : Res} (h : isT r = true) : r = .ok (.bl true) := by
  unfold isT at h
  split at h
  · rfl
  · cases h
/-- the box of draws: k draws at most were made -/
structure Bx (k : Nat) (ns : List Int) : Prop where
  at_ : ∃ b0 b1 b2, ns = [b0, b1, b2] ∧ 0 ≤ b0 ∧ 0 ≤ b1 ∧ b1 < 4611686018427387904 ∧ 0 ≤ b2 ∧ b2 ≤ k
theorem Bx.mono {j k : Nat} {ns : List Int} (h : Bx j ns) (e : j ≤ k) : Bx k ns := by
  obtain ⟨b0, b1, b2, h1, h2, h3, h4, h5, h6⟩ := h
  exact ⟨b0, b1, b2, h1, h2, h3, h4, h5, by omega⟩
theorem big_of {i : Int} (h1 : -18446744073709551616 < i) (h2 : i < 18446744073709551616) : big i = true := by
  unfold big
  exact Nat.ble_eq_true_of_le (by omega)
def drawn (b1 b2 n : Int) : Int :=
  ((((((b1 + 48271 * (b2 + 1)) * (39373 + (b2 + 1))) % 2147483647 + (b2 + 1) + b1 / 1000003) * (((b1 + 48271 * (b2 + 1)) * (39373 + (b2 + 1))) % 2147483647 % 40009 + 7)) % 2147483629 * 48271 + ((b1 + 48271 * (b2 + 1)) * (39373 + (b2 + 1))) % 2147483647) % 2147483587 / 64) % n
theorem cutL_to {α : Type} (xs : List α) (n : Nat) : cutL xs none (some (n : Int)) = xs.take n := by
  unfold cutL
  rw [HT.sIx_none, HT.sIx_nat, List.drop_zero, Nat.sub_zero, ← List.take_eq_take_min]
theorem cutL_at {α : Type} (xs : List α) (n : Nat) : cutL xs (some (n : Int)) none = xs.drop n := by
  unfold cutL
  rw [HT.sIx_none, HT.sIx_nat]
  by_cases h : n ≤ xs.length
  · rw [Nat.min_eq_left h, ← List.length_drop, List.take_length]
  · rw [Nat.min_eq_right (by omega), Nat.sub_self, List.take_zero, List.drop_eq_nil_of_le (by omega)]
theorem cutL_ft {α : Type} (xs : List α) (m n : Nat) : cutL xs (some (m : Int)) (some (n : Int)) = (xs.take n).drop m := by
  unfold cutL
  rw [HT.sIx_nat, HT.sIx_nat, List.drop_take]
  by_cases h : m ≤ xs.length
  · rw [Nat.min_eq_left h]
    by_cases h2 : n ≤ xs.length
    · rw [Nat.min_eq_left h2]
    · rw [Nat.min_eq_right (by omega), List.take_of_length_le (by rw [List.length_drop]; omega), List.take_of_length_le (by rw [List.length_drop]; omega)]
  · rw [Nat.min_eq_right (by omega : xs.length ≤ m), List.drop_eq_nil_of_le (Nat.le_refl _), List.drop_eq_nil_of_le (by omega : xs.length ≤ m), List.take_nil, List.take_nil]
theorem rng_mem {n : Nat} {d : D} (h : d ∈ rng 0 n) : ∃ k : Nat, k < n ∧ d = .int k := by
  unfold rng at h
  simp at h
  obtain ⟨k, h1, h2⟩ := h
  exact ⟨k, h1, by rw [← h2]⟩
theorem fits_of {n : Nat} (h : n ≤ 1000000) : fits n = true := by
  unfold fits
  exact decide_eq_true (by omega)
theorem rng_true (n : Nat) (y : D) : ((rng 0 n).map fun _ => y) = List.replicate n y := by
  unfold rng
  rw [List.map_map]
  exact List.ext_getElem (by simp) fun i h1 h2 => by simp
theorem all_true (n : Nat) : allD [.lst (List.replicate n (D.bl true))] = some (.bl true) := by
  have e : List.replicate n (D.bl true) = (List.replicate n true).map D.bl := by rw [List.map_replicate]
  rw [e, allD, allOf_map_bl]
  simp
theorem comp_inv {vs : List Nat} {gd : D → Rho → Option Rho} {ft : Rho → R Bool} {fe : Rho → R VD} (I : Nat → Rho → Prop) (y : D) (N : Nat) : ∀ (ds acc : List D) (k : Nat) (ρ : Rho), I k ρ →
    (∀ d ∈ ds, ∀ k ρ, ∀ acc' : List D, I k ρ → k < N → fits (acc'.length + 1) = true → ∃ ρ1, compTurn gd ft fe acc' d ρ = .ok (acc' ++ [y]) ρ1 ∧ I (k + 1) (wipeR ρ1 vs)) → acc.length + ds.length ≤ 1000000 → k + ds.length ≤ N →
    ∃ ρ', compLoop vs gd ft fe acc ds ρ = .ok (acc ++ ds.map fun _ => y) ρ' ∧ I (k + ds.length) ρ'
  | [], acc, k, ρ, hi, _, _, _ => ⟨ρ, by simp [compLoop], hi⟩
  | d :: ds, acc, k, ρ, hi, h, hl, hn => by
    rw [List.length_cons] at hl hn
    obtain ⟨ρ1, e1, e2⟩ := h d List.mem_cons_self k ρ acc hi (by omega) (fits_of (by omega))
    obtain ⟨ρ2, e3, e4⟩ := comp_inv I y N ds (acc ++ [y]) (k + 1) _ e2 (fun z hz => h z (List.mem_cons_of_mem _ hz)) (by rw [List.length_append, List.length_singleton]; omega) (by omega)
    refine ⟨ρ2, ?_, by rw [List.length_cons, show k + (ds.length + 1) = k + 1 + ds.length by omega]; exact e4⟩
    rw [compLoop, e1]
    dsimp only
    rw [e3, List.map_cons, List.append_assoc]
    rfl
theorem okR_small {i : Int} (h1 : -1000000000000 ≤ i) (h2 : i ≤ 1000000000000) : okR i = true := by
  unfold okR
  exact Nat.ble_eq_true_of_le (by omega)
theorem loop_inv {body : D → Rho → O} (I : Nat → Rho → Prop) : ∀ (ds : List D) (k : Nat) (ρ : Rho), I k ρ → (∀ (j : Nat) (d : D) (ρ : Rho), ds[j]? = some d → I (k + j) ρ → ∃ ρ1, body d ρ = .nx ρ1 ∧ I (k + j + 1) ρ1) →
    ∃ ρ', loopS body ds ρ = .nx ρ' ∧ I (k + ds.length) ρ'
  | [], k, ρ, hi, _ => ⟨ρ, rfl, hi⟩
  | d :: ds, k, ρ, hi, h => by
    obtain ⟨ρ1, e1, h1⟩ := h 0 d ρ rfl hi
    obtain ⟨ρ2, e2, h2⟩ := loop_inv I ds (k + 1) ρ1 h1 (fun j d' ρ' hj hi' => by
      obtain ⟨ρ3, e3, h3⟩ := h (j + 1) d' ρ' hj (by rw [show k + (j + 1) = k + 1 + j by omega]; exact hi')
      exact ⟨ρ3, e3, by rw [show k + 1 + j + 1 = k + (j + 1) + 1 by omega]; exact h3⟩)
    refine ⟨ρ2, ?_, by rw [List.length_cons, show k + (ds.length + 1) = k + 1 + ds.length by omega]; exact h2⟩
    rw [loopS, e1]
    exact e2
theorem rng_len (lo : Int) (n : Nat) : (rng lo n).length = n := by unfold rng; rw [List.length_map, List.length_range]
theorem rng_at {lo : Int} {n j : Nat} {d : D} (h : (rng lo n)[j]? = some d) : j < n ∧ d = .int (lo + j) := by
  have hj : j < n := by
    have := (List.getElem?_eq_some_iff.1 h).1
    rw [rng_len] at this
    exact this
  refine ⟨hj, ?_⟩
  unfold rng at h
  rw [List.getElem?_map, List.getElem?_range hj] at h
  exact (Option.some.inj h).symm
end Lq
namespace Lq
open PySem
/-! ### whole comprehensions, equal data -/
theorem compF_map {vs : List Nat} {fi : Rho → R (List D)} {gd : D → Rho → Option Rho} {fe : Rho → R VD} {ρ : Rho} {ds : List D} (g : D → D) (hi : fi ρ = .ok ds ρ) (hw : wipeR ρ vs = ρ) (hb : backR ρ ρ vs = ρ) (hp : (vs.all fun v => plainC (ρ.getD v .no)) = true)
    (hl : ds.length ≤ 1000000) (h : ∀ d ∈ ds, ∃ ρ1 ρ2, gd d ρ = some ρ1 ∧ fe ρ1 = .ok (.d (g d)) ρ2 ∧ wipeR ρ2 vs = ρ) : compF vs fi gd yesT fe ρ = .ok (ds.map g) ρ := by
  have e := comp_all (vs := vs) (gd := gd) (ft := yesT) (fe := fe) (g := fun d => [g d]) (ρ := ρ) ds [] (fun d hd => ⟨by simp, fun acc ha => by
    obtain ⟨ρ1, ρ2, e1, e2, e3⟩ := h d hd
    refine ⟨ρ2, ?_, e3⟩
    simp only [Lq.compTurn, e1, yesT, R.bind, e2, if_true, fits_of ha]⟩) (by rw [List.length_nil]; omega)
  rw [List.nil_append, flatMap_one] at e
  simp only [Lq.compF, hi, R.bind, hp, hw, e, hb, if_true]
/-- data of at most n levels, no list too long -/
def good : Nat → D → Bool
  | 0, _ => false
  | n + 1, .lst xs => decide (xs.length ≤ 1000000) && xs.all (good n)
  | n + 1, .tup xs => decide (xs.length ≤ 1000000) && xs.all (good n)
  | _ + 1, .non => true
  | _ + 1, .bl _ => true
  | _ + 1, .int _ => true
  | _ + 1, .str _ => true
  | _ + 1, _ => false
/-- the same, its texts of plain signs -/
def fine : Nat → D → Bool
  | 0, _ => false
  | n + 1, .lst xs => xs.all (fine n)
  | n + 1, .tup xs => xs.all (fine n)
  | _ + 1, .non => true
  | _ + 1, .bl _ => true
  | _ + 1, .int _ => true
  | _ + 1, .str s => PyData.strOk s
  | _ + 1, _ => false
theorem fines_plain {n : Nat} (h : ∀ d, fine n d = true → plainD d = true ∧ (toPy d).depth ≤ n ∧ ((toPy d).canLay0 = true)) : ∀ ys : List D, (∀ x ∈ ys, fine n x = true) → plainDs ys = true ∧ PyData.depthAll (toPys ys) ≤ n ∧ PyData.canLayAll0 (toPys ys) = true
  | [], _ => ⟨rfl, by simp [toPys, PyData.depthAll], by simp [toPys, PyData.canLayAll0]⟩
  | y :: r, q => by
    obtain ⟨a1, a2, a3⟩ := h y (q y List.mem_cons_self)
    obtain ⟨b1, b2, b3⟩ := fines_plain h r fun x hx => q x (List.mem_cons_of_mem _ hx)
    exact ⟨by simp [plainDs, a1, b1], by simp [toPys, PyData.depthAll]; omega, by simp [toPys, PyData.canLayAll0, a3, b3]⟩
theorem fine_plain : ∀ (n : Nat) (d : D), fine n d = true → plainD d = true ∧ (toPy d).depth ≤ n ∧ ((toPy d).canLay0 = true)
  | 0, _, h => by cases h
  | n + 1, d, h => by
    cases d with
    | non => exact ⟨rfl, by simp [toPy, PyData.depth], by simp [toPy, PyData.canLay0]⟩
    | bl _ => exact ⟨rfl, by simp [toPy, PyData.depth], by simp [toPy, PyData.canLay0]⟩
    | int _ => exact ⟨rfl, by simp [toPy, PyData.depth], by simp [toPy, PyData.canLay0]⟩
    | str s =>
      have hs : PyData.strOk s = true := h
      exact ⟨rfl, by simp [toPy, PyData.depth], by simp [toPy, PyData.canLay0, hs]⟩
    | obj _ _ => cases h
    | scr _ => cases h
    | lst xs =>
      obtain ⟨a1, a2, a3⟩ := fines_plain (fine_plain n) xs (List.all_eq_true.1 (by unfold fine at h; exact h))
      exact ⟨by simp [plainD, a1], by simp [toPy, PyData.depth]; omega, by simp [toPy, PyData.canLay0, a3]⟩
    | tup xs =>
      obtain ⟨a1, a2, a3⟩ := fines_plain (fine_plain n) xs (List.all_eq_true.1 (by unfold fine at h; exact h))
      exact ⟨by simp [plainD, a1], by simp [toPy, PyData.depth]; omega, by simp [toPy, PyData.canLay0, a3]⟩
theorem fine_okQ {n : Nat} {d : D} (h : fine n d = true) (hn : n ≤ 64) : okQ d = true := by
  obtain ⟨a1, a2, a3⟩ := fine_plain n d h
  unfold okQ SeqAt.shaped
  rw [a1, a3, decide_eq_true (by omega : (toPy d).depth ≤ 64)]
  rfl
theorem good_lst {n : Nat} {xs : List D} (h : xs.length ≤ 1000000) (hx : ∀ x ∈ xs, good n x = true) : good (n + 1) (.lst xs) = true := by
  unfold good
  rw [decide_eq_true h, List.all_eq_true.2 hx]
  rfl
theorem good_tup {n : Nat} {xs : List D} (h : xs.length ≤ 1000000) (hx : ∀ x ∈ xs, good n x = true) : good (n + 1) (.tup xs) = true := by
  unfold good
  rw [decide_eq_true h, List.all_eq_true.2 hx]
  rfl
theorem zip_self {xs : List D} {d : D} (h : d ∈ zipD xs xs) : ∃ x ∈ xs, d = .tup [x, x] := by
  obtain ⟨i, hi, e⟩ := List.getElem_of_mem h
  obtain ⟨x, y, e1, e2, e3⟩ := zip_get (List.getElem?_eq_some_iff.2 ⟨hi, e⟩)
  rw [e1] at e2; cases e2
  exact ⟨x, List.mem_of_getElem? e1, e3⟩
theorem zip_self_len (xs : List D) : (zipD xs xs).length = xs.length := by
  unfold zipD
  rw [List.length_map, List.length_zip, Nat.min_self]
theorem map_yes (xs : List D) (y : D) : (xs.map fun _ => y) = List.replicate xs.length y := List.map_const' ..
end Lq
namespace Lq
open PySem
/-! ### joined texts, sorted texts -/
theorem sum_len {c : Nat} : ∀ ws : List Str, (∀ w ∈ ws, w.length ≤ c) → (ws.map (·.length)).sum ≤ ws.length * c
  | [], _ => Nat.zero_le _
  | w :: r, h => by
    have h1 := sum_len r fun x hx => h x (List.mem_cons_of_mem _ hx)
    have h2 := h w List.mem_cons_self
    rw [List.map_cons, List.sum_cons, List.length_cons, Nat.add_mul, Nat.one_mul]
    omega
/-- words that may be joined: not too long, not too many -/
structure Wd (s : Nat) (ws : List Str) : Prop where
  few : ws.length ≤ 1000
  short : ∀ w ∈ ws, w.length ≤ 100
  free : ∀ w ∈ ws, s ∉ TL.tl w
  dash : ∀ w ∈ ws, w ≠ "-"
theorem Wd.room {s : Nat} {ws : List Str} (h : Wd s ws) {sep : Str} (hs : sep.length ≤ 10) : (ws.map (·.length)).sum + ws.length * sep.length ≤ 110000 := by
  have h1 := sum_len ws h.short
  have h2 : ws.length * sep.length ≤ 1000 * 10 := Nat.mul_le_mul h.few hs
  have h3 := h.few
  omega
theorem Wd.split {s : Nat} {ws : List Str} (h : Wd s ws) {sep : Str} {S : List Nat} (hs : sep.length ≤ 10) (ey : TL.tl sep = s :: S) (hk : sep.cps.all (· < 256) = true) (hn : ws ≠ []) : Txt.split (Txt.join sep ws) sep = ws :=
  TL.split_join ey hk hn h.free
theorem Wd.fits {s : Nat} {ws : List Str} (h : Wd s ws) {sep : Str} (hs : sep.length ≤ 10) : Lq.fits (Txt.join sep ws).length = true := by
  have h1 := h.room hs
  have h2 := StrLaws.join_length_le sep ws
  rw [← TL.join_eq] at h2
  exact fits_of (by omega)
def LtS (x y : Str) : Prop := x.cps.toList < y.cps.toList
end Lq
namespace Lq
open PySem PySem.Spec PyProof.Rows L2
/-! ### an error that is caught and kept behind its suite: from the suite on it is an object like others -/
section
variable {X : Cx} {pins : List (Addr × Obj)} {σ : L2.St} {H : Hp} {s : Shared}
theorem exK_ok {P : Program} {w : World} {H : Hp} {h : Heap} {C d a : Addr} {oe : Obj} {vs : Array Value} (e : h.get? a = some oe) (z : Zc (.ref C) (some d) oe) (hd : oe.data = .fields vs) : ObjOk P w H h a (ExK C d a) :=
  ⟨⟨oe, vs, e, z, hd⟩, ⟨oe, e⟩, fun _ _ ⟨o, v, q, r⟩ k => ⟨o, v, k o q, r⟩⟩
/-- an object that no one knew is known from now on -/
theorem inv_know {a : Addr} {o : HO} (I : Inv X pins σ H s) (n0 : X.s_0.heap.get? a = none) (na : H a = none) (nL : a ≠ X.env.locals) (nC : ∀ x c, X.env.cells.lookup x = some c → c ≠ a) (nP : ∀ p ∈ X.pn ++ pins, p.1 ≠ a) (new : ObjOk X.prog X.w (upd H a o) s.heap a o) :
    Inv X pins σ (upd H a o) s where
  ok := I.ok
  os := I.os
  bare := I.bare
  base := {
    keep := I.base.keep
    slot := I.base.slot
    free := fun b u q n hx => (upd_ne (fun z => by rw [z, n0] at q; cases q)).trans (I.base.free b u q n hx)
    there := I.base.there
    tups := fun b xs q => have z := I.base.tups b xs q; (upd_ne (ne_of_none z na)).trans z
    frzs := fun b u xs q => have z := I.base.frzs b u xs q; (upd_ne (ne_of_none z na)).trans z
    tbls := fun b ps q => have ⟨m, z⟩ := I.base.tbls b ps q; ⟨m, (upd_ne (ne_of_none z na)).trans z⟩ }
  loc := I.loc
  cell := I.cell
  free := (upd_ne (Ne.symm nL)).trans I.free
  freeC := fun x c e => (upd_ne (nC x c e)).trans (I.freeC x c e)
  pin := fun p hp => have ⟨h1, h2, h3⟩ := I.pin p hp; ⟨h1, (upd_ne (nP p hp)).trans h2, h3⟩
  hok := I.hok.laidN (fun _ _ q => q) na new
  len := I.len
theorem inv_in (I : Inv X pins σ H s) (a : Addr) : Inv (X.suite a (X.pn ++ pins)) [] σ H s where
  ok := I.ok.suite _ _
  os := I.os
  bare := I.bare
  base := I.base
  loc := I.loc
  cell := I.cell
  free := I.free
  freeC := I.freeC
  pin := fun p hp => I.pin p (by simpa using hp)
  hok := I.hok
  len := I.len
theorem inv_out {a : Addr} {qs : List (Addr × Obj)} (I : Inv (X.suite a (X.pn ++ pins)) qs σ H s) (ok : X.Ok) : Inv X pins σ H s where
  ok := ok
  os := I.os
  bare := I.bare
  base := I.base
  loc := I.loc
  cell := I.cell
  free := I.free
  freeC := I.freeC
  pin := fun p hp => I.pin p (List.mem_append.mpr (Or.inl hp))
  hok := I.hok
  len := I.len
/-- an error a in flight at the frame of X; s0: what stood before it was made -/
structure Down (X : Cx) (pins : List (Addr × Obj)) (σ : L2.St) (H : Hp) (a : Addr) (cls : Value) (d : Option Addr) (B : Heap) (s0 s : Shared) : Prop where
  inv : Inv X pins σ H s0
  gr : ∀ b o, s0.heap.get? b = some o → b ∉ frs X.stack → B.get? b = some o
  up : s0.heap.UpToSlots s.heap
  no : H a = none
  os : s.os = s0.os
  bare : AllBare s.gens
  fly : HandSPX.FlyingZ B X.stack a (Zc cls d) s.heap
variable {a : Addr} {cls : Value} {d : Option Addr} {B : Heap} {s0 : Shared}
theorem Down.here (w : Down X pins σ H a cls d B s0 s) : Inv X pins σ H s := Inv.landed w.inv w.gr w.fly.1 w.up w.os w.bare
theorem Down.obj (w : Down X pins σ H a cls d B s0 s) : ∃ oe vs, s.heap.get? a = some oe ∧ Zc cls d oe ∧ oe.data = .fields vs := HandSPX.FlyingZ.there w.fly
theorem Down.off (w : Down X pins σ H a cls d B s0 s) : a ∉ frs X.stack := fun m => by
  obtain ⟨oe, vs, e, _, q⟩ := w.obj
  obtain ⟨_, o, e', no⟩ := w.fly.2.2.1.mem m
  cases e.symm.trans e'
  exact no vs q
theorem Down.new (w : Down X pins σ H a cls d B s0 s) : s0.heap.get? a = none := by
  cases e : s0.heap.get? a with
  | none => rfl
  | some o => cases (w.gr a o e w.off).symm.trans w.fly.2.1
theorem Down.known {C dd : Addr} (w : Down X pins σ H a (.ref C) (some dd) B s0 s) (hs : X.stack = X.env :: X.outer) (hf : X.env.frame = some X.env.locals) (hex : X.ex = []) : Inv X pins σ (upd H a (ExK C dd a)) s := by
  obtain ⟨oe, vs, e, z, q⟩ := w.obj
  refine inv_know w.here ?_ w.no (fun y => w.off ?_) (fun x c ec y => ?_) (fun p hp y => ?_) (exK_ok e z q)
  · cases e0 : X.s_0.heap.get? a with
    | none => rfl
    | some o =>
      obtain ⟨o', z'⟩ := w.inv.base.there a o e0 (hex ▸ List.not_mem_nil)
      cases w.new.symm.trans z'
  · rw [hs, y]
    exact List.mem_filterMap.mpr ⟨_, List.mem_cons_self, hf⟩
  · obtain ⟨v, o, e1, _⟩ := w.inv.cell x c ec
    rw [y] at e1
    cases w.new.symm.trans e1
  · have e1 := (w.inv.pin p hp).1
    rw [y] at e1
    cases w.new.symm.trans e1
/-- the clause's name goes when its suite has ended -/
theorem suite_end {M : Model} {n : Str} {i : Nat} {pos : Pos} {D : Ends} {f : Flow} {s6 : Shared} (ok : X.Ok) (hN : X.N.Nodup) (hi : X.N[i]? = some n) (hl : X.env.kindOf n = some .local)
    (h : SP (X.suite a (X.pn ++ pins)) [] { nx := fun σ' H' => D.nx (σ'.set i none) H', rt := D.rt, bk := fun σ' H' => D.bk (σ'.set i none) H', ct := fun σ' H' => D.ct (σ'.set i none) H' } f s6) :
    wpAny M X.A (do bindName X.env n .none; unbindBehindTheSuite X.env n pos) (fun _ s7 => SP X pins D f s7) X.xe s6 := by
  cases f with
  | ret u => obtain ⟨v, σ', H', J, r, q⟩ := h; exact gone_ok (inv_out J ok) hN hi hl fun _ I => ⟨v, _, H', I, r, q⟩
  | next => obtain ⟨σ', H', J, q⟩ := h; exact gone_ok (inv_out J ok) hN hi hl fun _ I => ⟨_, H', I, q⟩
  | brk => obtain ⟨σ', H', J, q⟩ := h; exact gone_ok (inv_out J ok) hN hi hl fun _ I => ⟨_, H', I, q⟩
  | cont => obtain ⟨σ', H', J, q⟩ := h; exact gone_ok (inv_out J ok) hN hi hl fun _ I => ⟨_, H', I, q⟩
theorem body_end {pn : List (Addr × Obj)} {xe : Value → Shared → Prop} {D : Ends} {f : Flow} {s1 : Shared} (ok : X.Ok) (h : SP (X.tr (X.pn ++ pins) xe) [] D f s1) : SP X pins D f s1 := by
  cases f with
  | ret u => obtain ⟨v, σ', H', J, r⟩ := h; exact ⟨v, σ', H', J.ofTry ok, r⟩
  | next => obtain ⟨σ', H', J, q⟩ := h; exact ⟨σ', H', J.ofTry ok, q⟩
  | brk => obtain ⟨σ', H', J, q⟩ := h; exact ⟨σ', H', J.ofTry ok, q⟩
  | cont => obtain ⟨σ', H', J, q⟩ := h; exact ⟨σ', H', J.ofTry ok, q⟩
end
section
variable {X : Cx} {pins : List (Addr × Obj)} {σ : L2.St} {H : Hp} {a : Addr} {cls : Value} {d : Option Addr} {B : Heap} {s0 s : Shared} {x n : Str} {c : Value} {i : Nat} {body suite : List Stmt} {b₀ : Stmt} {np pos pos' : Pos} {tb : WX → TS} {ts : TS} {Wout : WX} {D : Ends}
theorem Down.names (w : Down X pins σ H a cls d B s0 s) (hc : Names X x c) {Q : Value → Shared → Prop} {E : Value → Shared → Prop} (q : Q c s) : wpAny (model X.prog X.w) (X.A.mark (some (.ref a))) (eval (.Name x np) X.env) Q E s :=
  match hc with
  | ⟨hg, hd, .inl hm⟩ => ld_glob (X := X.suite a (X.pn ++ pins)) (inv_in w.here a) hg hm q hd
  | ⟨hg, hd, .inr ⟨hm, hv, hn⟩⟩ => ld_blt (X := X.suite a (X.pn ++ pins)) (inv_in w.here a) hg hm hv q hn hd
end
end Lq
namespace Lq
open PySem PySem.Spec PyProof.Rows L2
/-! ### several clauses -/
def PH (X : Cx) (hs : List ExceptHandler) (w : Ends → WX) : Prop := ∀ (pins : List (Addr × Obj)) (σ : L2.St) (H : Hp) (a : Addr) (cls : Value) (d : Option Addr) (B : Heap) (s0 s : Shared) (De : Ends),
  Down X pins σ H a cls d B s0 s → w De cls d σ H → wpAny (model X.prog X.w) X.A (handleBy (.ref a) X.env hs) (SP X pins De) X.xe s
section
variable {X : Cx} {x n : Str} {c : Value} {i : Nat} {body suite : List Stmt} {b₀ : Stmt} {h₀ : ExceptHandler} {hs : List ExceptHandler} {np pos pos' : Pos} {tb : WX → TS} {ts : TS} {Wout : WX} {w : Ends → WX}
theorem ph_nil (hst : X.stack = X.env :: X.outer) (hf : X.env.frame = some X.env.locals) (tk : Takes X Wout) : PH X [] (fun _ => Wout) := by
  intro pins σ H a cls d B s0 s De w hno
  have out : wpAny (model X.prog X.w) X.A (setFlight (.ref a) X.env.frame) (fun _ s4 => wpAny (model X.prog X.w) X.A (throw (.ref a) : Sem Flow) (SP X pins De) X.xe s4) X.xe s := by
    rw [hf]
    exact HandSPX.setFlight_upZ w.fly fun h hh up => wpAny_throw (tk _ _ ⟨a, B, s0, pins, σ, H, cls, d, rfl, w.inv, w.gr, w.up.trans up, Or.inr (Or.inr hh), w.no, w.os, w.bare, hno⟩)
  obtain ⟨_, _, _, oe, vs, t, _, _, e, _, q, e1, _⟩ := id w.fly
  refine wpAny_handleBy_nil ?_
  unfold PySem.passOn
  refine wpAny_bind (wpAny_field e q e1 ?_)
  have hn : (Value.ref t == Value.none) = false := by simp
  rw [hn]
  first
    | exact wpAny_bind out
    | exact wpAny_bind (wpAny_pure (wpAny_bind out))
/-- what the clause and those behind it wish of an error of the body -/
def wClause (K : PySem.W.Frag) (c : Value) (i : Nat) (ts : TS) (w : Ends → WX) (D : Ends) : WX := fun cls d σ H =>
  ∃ b, PySem.W.exmOne K cls c = some b ∧ (b = false → w D cls d σ H) ∧ (b = true → ∃ C dd, cls = .ref C ∧ d = some dd ∧ ∀ a, H a = none →
    ts { nx := fun σ' H' => D.nx (σ'.set i none) H', rt := D.rt, bk := fun σ' H' => D.bk (σ'.set i none) H', ct := fun σ' H' => D.ct (σ'.set i none) H' } (σ.set i (some (.ref a))) (upd H a (ExK C dd a)))
theorem ph_as (hst : X.stack = X.env :: X.outer) (hf : X.env.frame = some X.env.locals) (hex : X.ex = []) (hN : X.N.Nodup) (hi : X.N[i]? = some n) (hl : X.env.kindOf n = some .local) (hc : Names X x c)
    (hsu : ∀ (a : Addr) (pn : List (Addr × Obj)), PSs (X.suite a pn) (b₀ :: suite) ts) (hr : PH X hs w) : PH X (.ExceptHandler (some (.Name x np)) (some n) (b₀ :: suite) pos' :: hs) (wClause X.K c i ts w) := by
  intro pins σ H a cls d B s0 s De w hw
  obtain ⟨b, hb, hno, hyes⟩ := hw
  have lk := PySem.W.exm_one (M := model X.prog X.w) (e := a) w.here.kIn (by
    obtain ⟨oe, vs, e, z, _⟩ := w.obj
    exact fun A Q E s k q => wpAny_typeOf_ref (k _ _ e) (z.1.symm ▸ q)) hb
  refine wpAny_handleBy_cons (codeAny_handlers_test (w.names hc (lk.here ?_))) (fun q => nomatch q)
  cases b with
  | true =>
    obtain ⟨C, dd, rfl, rfl, hy⟩ := hyes rfl
    refine codeAny_handlers_suite_as (HandSPX.lands_againZ w.fly fun h fl up => ?_)
    have w' : Down X pins σ H a (.ref C) (some dd) B s0 { s with heap := h } := ⟨w.inv, w.gr, w.up.trans up, w.no, w.os, w.bare, fl⟩
    refine store_ok (X := X.suite a (X.pn ++ pins)) (v := .ref a) (inv_in (w'.known hst hf hex) a) hN hi (Or.inl hl) rfl (fun s5 I5 => ?_) (Or.inr hl)
    exact wpAny_mono ((hsu a (X.pn ++ pins)).run [] s5 _ _ _ I5 (hy a w.no)) (fun f s6 q => suite_end w.inv.ok hN hi hl q) fun _ _ z => z.elim
  | false =>
    exact hr pins σ H a cls d B s0 s De w (hno rfl)
theorem ps_tryH (hst : X.stack = X.env :: X.outer) (hf : X.env.frame = some X.env.locals)
    (hb : ∀ (W : WX) (pn : List (Addr × Obj)) (xe : Value → Shared → Prop), Takes (X.tr pn xe) W → PassesOwn (model X.prog X.w) X.A X.env xe → PSs (X.tr pn xe) body (tb W)) (hh : PH X (h₀ :: hs) w) :
    PS X (.Try body (h₀ :: hs) [] [] pos) (fun D σ H => tb (w D) D σ H) := by
  refine ⟨fun pins s σ H D I h => wpAny_Try_except (wpAny_mono ((hb _ (X.pn ++ pins) _ ?_ PassesOwn.looking).run [] s σ H D (I.toTry _) h) (fun f s1 q => ?_) fun _ _ q => q)⟩
  · rintro u s' ⟨a, B, s0, pins', σ', H', cls, d, rfl, J, gr, up, sky, na, os, ag, hw⟩
    refine Sky.land Zc.steady (by rw [I.ok.frames, hst]) hf (hst ▸ sky) fun h fl up2 => ?_
    exact hh pins σ' H' a cls d B s0 _ D ⟨J.ofTry I.ok, gr, up.trans up2, na, os, ag, hst.symm ▸ fl⟩ hw
  · have e := body_end (pn := X.pn) I.ok q
    cases f with
    | next => exact wpAny_execs_nil e
    | _ => exact e
end
/-! ### over plain data -/
def goneS (i : Nat) : O → O
  | .nx ρ => .nx (ρ.set i .no)
  | .bk ρ => .bk (ρ.set i .no)
  | .ct ρ => .ct (ρ.set i .no)
  | .err _ _ => .bad
  | r => r
def hNil : Xn → Rho → O := fun x ρ => .err x ρ
def hAs (ex : List (Nat × Bool)) (i : Nat) (g : Rho → O) (rest : Xn → Rho → O) : Xn → Rho → O := fun x ρ => match ex.lookup x.t with
  | some true => if isEx x.t then goneS i (g (ρ.set i (.d (.obj x.t x.fs)))) else .bad
  | some false => rest x ρ
  | none => .bad
def tryS (g : Rho → O) (h : Xn → Rho → O) : Rho → O := fun ρ => match g ρ with
  | .err x ρ1 => h x ρ1
  | r => r
def XH (X : Cx) (T : Tb) (W : WX) (hs : List ExceptHandler) (h : Xn → Rho → O) : Prop := PH X hs fun De cls d σ H => ∃ β G S ρ x, Ok X.K T β G S σ ρ H ∧ XR X.K T S x cls d ∧ PostS X.K T W β G S (h x ρ) De
theorem PH.impQ {X : Cx} {hs : List ExceptHandler} {w w' : Ends → WX} (h : PH X hs w) (i : ∀ De c d σ H, w' De c d σ H → w De c d σ H) : PH X hs w' := fun pins σ H a cls d B s0 s De dn q => h pins σ H a cls d B s0 s De dn (i De cls d σ H q)
section
variable {X : Cx} {T : Tb} {W : WX} {x n : Str} {c : Value} {i : Nat} {body suite : List Stmt} {b₀ : Stmt} {h₀ : ExceptHandler} {hs : List ExceptHandler} {np pos pos' : Pos} {g : Rho → O} {h : Xn → Rho → O} {ex : List (Nat × Bool)}
theorem xh_nil (hst : X.stack = X.env :: X.outer) (hf : X.env.frame = some X.env.locals) (tk : Takes X W) : XH X T W [] hNil := (ph_nil hst hf tk).impQ fun De cls d σ H q => by
  obtain ⟨β, G, S, ρ, x, o, xr, p⟩ := q
  exact p S σ H cls d (Same.refl _) o xr
theorem xh_as (i : Nat) (hst : X.stack = X.env :: X.outer) (hf : X.env.frame = some X.env.locals) (hex : X.ex = []) (hN : X.N.Nodup) (hc : Names X x c) (hx : ∀ t b, ex.lookup t = some b → PySem.W.exmOne X.K (.ref (T t)) c = some b)
    (hsu : ∀ (a : Addr) (pn : List (Addr × Obj)), XB (X.suite a pn) T W0 (b₀ :: suite) g) (hr : XH X T W hs h) (hi : X.N[i]? = some n := by rfl) (hl : X.env.kindOf n = some .local := by rfl) : XH X T W (.ExceptHandler (some (.Name x np)) (some n) (b₀ :: suite) pos' :: hs) (hAs ex i g h) :=
  (ph_as (ts := rS X.K T W0 g) hst hf hex hN hi hl hc hsu hr).impQ fun De cls d σ H q => by
    obtain ⟨β, G, S, ρ, x, o, xr, p⟩ := q
    obtain ⟨rfl, dd, vs, rfl, hd, rps⟩ := xr
    unfold hAs at p
    cases hb : ex.lookup x.t with
    | none => rw [hb] at p; exact p.elim
    | some b =>
      refine ⟨b, hx _ _ hb, fun z => ?_, fun z => ?_⟩
      · subst z
        rw [hb] at p
        exact ⟨β, G, S, ρ, x, o, ⟨rfl, dd, vs, rfl, hd, rps⟩, p⟩
      · subst z
        rw [hb] at p
        dsimp only at p
        split at p
        case isFalse => exact p.elim
        case isTrue ie =>
        refine ⟨_, _, rfl, rfl, fun a ha => ?_⟩
        have e1 := Ext.new (S := S) (H := H) (p := a) (o := ExK (T x.t) dd a) o.sh ha
        have sn : Same S (upd S a (ExK (T x.t) dd a)) := same_new (o.sh.free ha)
        have o1 := (o.ext e1).setD (i := i) (x := .obj x.t x.fs) (v := .ref a) ⟨a, vs, rfl, .inl ⟨ie, dd, upd_same, sn _ _ hd⟩, Rps.mono sn _ _ rps⟩
        refine ⟨β, G, _, _, o1, ?_⟩
        have p1 := p.mono sn
        revert p1
        cases g (ρ.set i (.d (.obj x.t x.fs))) with
        | nx ρ1 => exact fun p1 S' σ' H' e o' => p1 S' _ H' e o'.setN
        | bk ρ1 => exact fun p1 S' σ' H' e o' => p1 S' _ H' e o'.setN
        | ct ρ1 => exact fun p1 S' σ' H' e o' => p1 S' _ H' e o'.setN
        | rt v ρ1 => exact fun p1 => p1
        | rf ds ρ1 => exact fun p1 => p1
        | err x ρ1 => exact fun p1 => p1.elim
        | bad => exact fun p1 => p1
theorem xs_try (hst : X.stack = X.env :: X.outer) (hf : X.env.frame = some X.env.locals)
    (hb : ∀ (W : WX) (pn : List (Addr × Obj)) (xe : Value → Shared → Prop), Takes (X.tr pn xe) W → PassesOwn (model X.prog X.w) X.A X.env xe → XB (X.tr pn xe) T W body g) (hh : XH X T W (h₀ :: hs) h) :
    XS X T W (.Try body (h₀ :: hs) [] [] pos) (tryS g h) := (ps_tryH (tb := fun W => rS X.K T W g) hst hf hb hh).impQ fun De σ H q => by
  obtain ⟨β, G, S, ρ, o, p⟩ := q
  refine ⟨β, G, S, ρ, o, ?_⟩
  unfold tryS at p
  revert p
  cases g ρ with
  | err x ρ1 => exact fun p S' σ' H' c d e o' xr => ⟨β, G, S', ρ1, x, o', xr, p.mono e⟩
  | nx ρ1 => exact fun p => p
  | bk ρ1 => exact fun p => p
  | ct ρ1 => exact fun p => p
  | rt v ρ1 => exact fun p => p
  | rf ds ρ1 => exact fun p => p
  | bad => exact fun p => p
end
end Lq
namespace Lq
open PySem PySem.Spec PyProof.Rows L2
/-! ### an own error is made: by any arguments that the call has -/
section
variable {X : Cx} {p pos : Pos} {e : Expr} {es : List Expr}
/-- the call itself, behind the arguments -/
theorem mk_called {x : Str} {C fI : Addr} {k : Nat} {fd : FuncData} {ps : List Str} {sp : Sp} (T : OexC X.K C) (iC : PySem.W.findIn X.K (.ref C) "__init__" = some (some (.ref fI))) (tI : PySem.W.typeIn X.K (.ref fI) = some (.type "function"))
    (F1 : FnOk X.prog X.w X.K X.mg X.base (L2.CX X.prog X.w) k fI fd ps sp) (hr : Room (k + 1) X.A) (hb : Binds X.K fd ps []) {pins : List (Addr × Obj)} {σ : L2.St} {H1 : Hp} {s1 : Shared} {us : List Value} {vs : List V} {Q : L2.XK} (I1 : Inv X pins σ H1 s1) (r1 : Vals vs us) (hz : vs.length ≤ 1000)
    (q1 : ∀ a, H1 a = none → sp (.ref a :: vs) (upd H1 a (exo a C none)) (fun v H2 => v = .non ∧ ∃ (d : Addr) (fs : List (Str × V)), H2 a = some (exo a C (some d)) ∧ H2 d = some (exd d fs) ∧ H1 d = none ∧ Q (.ref C) (some d) (upd (L2.del H2 a) d (.xd fs))) (fun _ _ _ => False)) :
    wpAny (model X.prog X.w) X.A (call (.ref C) us) (MkP X pins σ Q) X.xe s1 := by
  obtain ⟨nm, q, N, bs, bm, sn, sub, ab, col, dd, k0, k1, k2, k3, k5, hC, hbm⟩ := T.cls
  obtain ⟨hp, g, dr, tk, os⟩ := s1
  have hsz : hp.objs.size ≤ hp.objs.size + 1 := Nat.le_succ _
  have hn : H1 (hp.objs.size + 1) = none := I1.hok.fresh hsz
  have hq := q1 (hp.objs.size + 1) hn
  have kk : ∀ b o, hp.get? b = some o → ((hp.push (PySem.W.kdv_tup us)).push (PySem.HandSPX.excO C hp.objs.size)).get? b = some o := fun b o e => Heap.get?_push_of_some _ (Heap.get?_push_of_some _ e)
  have hget : ((hp.push (PySem.W.kdv_tup us)).push (PySem.HandSPX.excO C hp.objs.size)).get? (hp.objs.size + 1) = some (PySem.HandSPX.excO C hp.objs.size) := by heap_get
  have I2 : Inv X pins σ (upd H1 (hp.objs.size + 1) (exo (hp.objs.size + 1) C none)) ⟨(hp.push (PySem.W.kdv_tup us)).push (PySem.HandSPX.excO C hp.objs.size), g, dr, tk, os⟩ :=
    I1.laid (t' := tk) (a := hp.objs.size + 1) (o := exo (hp.objs.size + 1) C none) (h' := (hp.push (PySem.W.kdv_tup us)).push (PySem.HandSPX.excO C hp.objs.size)) kk hsz (exo_ok hget)
  have r2 : Vals (V.ref (hp.objs.size + 1) :: vs) (Value.ref (hp.objs.size + 1) :: us) := .cons rfl r1
  have hl : (Value.ref (hp.objs.size + 1) :: us ++ []).length = ps.length := by
    have e := r2.length
    rw [F1.len _ _ _ _ hq] at e
    rw [List.append_nil]
    exact e.symm
  have hus : us.length ≤ sizeLine := by
    rw [← Paired.length r1, sizeLine_eq]
    omega
  have hbb := hb _ (Value.ref (hp.objs.size + 1) :: us) I2.kIn hl
  rw [List.append_nil] at hbb
  refine wpAny_call (PySem.HandSPX.call_own F.excBase_ValueError (fun Y => PySem.HandSPX.refsVE_contains Y bm hbm) (I1.kIn _ _ hC) (PySem.W.looks_findIn I1.kIn iC) (fun self => PySem.W.bind_fn I1.kIn self tI) hus
    (codeAny_mono (F1.run _ X.stack _ _ ⟨Value.ref (hp.objs.size + 1) :: us, []⟩ (Value.ref (hp.objs.size + 1) :: us) _ _ (fun _ _ _ => False) (hr.make C us []) (I2.env0.make C us []) hbb r2 hq) fun r s' hq' => ?_))
  cases r with
  | error er => exact (cx_no hq').elim
  | ok fl =>
    cases fl with
    | ret u =>
      obtain ⟨v, H2, os2, bare2, un2, hok2, rv, ev, d, fs, ea, ed, hd1, q2⟩ := hq'
      subst ev
      obtain ⟨h2, g2, d2, t2, os'⟩ := s'
      exact ⟨rv, mk_end (raises_own T.exC T.tyC) I1 hsz kk un2 hok2 os2 bare2 ea ed hd1 q2⟩
    | next => exact False.elim hq'
    | brk => exact False.elim hq'
    | cont => exact False.elim hq'
def tMkX (C : Addr) (sp : Sp) (ta : TA) : L2.St → Hp → L2.XK → Prop := fun σ H Q => ta σ H fun vs H1 => vs.length ≤ 1000 ∧ ∀ a, H1 a = none → sp (.ref a :: vs) (upd H1 a (exo a C none))
  (fun v H2 => v = .non ∧ ∃ (d : Addr) (fs : List (Str × V)), H2 a = some (exo a C (some d)) ∧ H2 d = some (exd d fs) ∧ H1 d = none ∧ Q (.ref C) (some d) (upd (L2.del H2 a) d (.xd fs))) (fun _ _ _ => False)
theorem pmk_x1 {x : Str} {C fI : Addr} {k : Nat} {fd : FuncData} {ps : List Str} {sp : Sp} {ta : TA} (T : OexC X.K C) (iC : PySem.W.findIn X.K (.ref C) "__init__" = some (some (.ref fI))) (tI : PySem.W.typeIn X.K (.ref fI) = some (.type "function"))
    (F1 : FnOk X.prog X.w X.K X.mg X.base (L2.CX X.prog X.w) k fI fd ps sp) (hr : Room (k + 1) X.A) (hb : Binds X.K fd ps []) (hm : X.mg x = some (.ref C)) (ha : PA X (e :: es) ta) (hg : L2.Gl X x := by rfl)
    (hdb : (x == ("__debug__" : Str)) = false := by decide) (he : starEach (e :: es) X.env = (false, eval e X.env) :: starEach es X.env := by rfl) (hpl : (backTo pos (starEach es X.env)).any (·.1) = false := by rfl) :
    PMk X (.Call (.Name x p) (e :: es) [] pos) (tMkX C sp ta) := by
  intro pins s σ H Q I h
  refine wpAny_Call_Name_kw (ld_glob I hg hm ?_ hdb)
  refine PySem.W.callWith_K (h₀ := X.base) I.ok.mod.kin T.kC (thn (ha.run pos pins s σ H _ I h) fun us s1 ⟨vs, H1, I1, r1, hz, q1⟩ => ⟨I1.kIn, ?_⟩) he hpl
  exact mk_called (x := x) T iC tI F1 hr hb I1 r1 hz q1
end
/-! ### the __init__ of an error: self.f = f; self.f = () -/
def spIn (K : PySem.W.Frag) (C : Addr) (f : Str) : Sp := fun vs H Q _ => ∃ a v, vs = [.ref a, v] ∧ H a = some (exo a C none) ∧ ∀ dx, H dx = none → dx ≠ a → Q .non (upd (upd H dx (exd dx [(f, v)])) a (exo a C (some dx)))
/-- what the text says of an own error class -/
structure EC (K : PySem.W.Frag) (mg : Str → Option Value) (x f : Str) (C fI : Addr) : Prop where
  gC : mg x = some (.ref C)
  ox : OexC K C
  iC : PySem.W.findIn K (.ref C) "__init__" = some (some (.ref fI))
  tI : PySem.W.typeIn K (.ref fI) = some (.type "function")
  noF : PySem.W.findIn K (.ref C) f = some none
  ga : PySem.W.findIn K (.ref C) "__getattribute__" = some (some (.builtin "BaseException.__getattribute__"))
  gg : PySem.W.findIn K (.ref C) "__getattr__" = some none
  hd : PySem.W.hasDictIn K C = true
theorem EC.xf {K : PySem.W.Frag} {mg : Str → Option Value} {x f : Str} {C fI : Addr} (E : EC K mg x f C fI) : XfC K C := ⟨E.ga, E.gg, E.ox.exC, E.hd⟩
section
variable {P : Program} {w : World} {K : PySem.W.Frag} {mg : Str → Option Value} {base : Heap}
theorem fn_in1 {qual f : Str} {st : Stmt} {fI C : Addr} {fd : FuncData} {N : List Str} (F : Fun K "__init__" qual st fI fd) (Sc : FnScope N ["self", f] (defScope st)) (hN : N = [("self" : Str), f]) (T : OexC K C) (noF : PySem.W.findIn K (.ref C) f = some none)
    (hb : ∀ (cdv : Value) (A : Around) (outer : List PySem.Env) (s : Shared) (H : Hp) (E : L2.XK), PSs (cxOf (L2.CX P w) P w K mg base N qual (defScope st) fI cdv A outer s H E) (defBody st) (tOst K f (tVar 0) (tVar 1))) :
    FnOk P w K mg base (L2.CX P w) 1 fI fd ["self", f] (spIn K C f) := by
  refine F.okX (k := 0) Sc (fun vs H Q E h => ?_) (fun cdv A outer s H vs Q E hr h => ⟨_, hb cdv A outer s H E, ?_⟩)
  · obtain ⟨a, v, rfl, _⟩ := h; rfl
  · obtain ⟨a, v, rfl, ha, q⟩ := h
    subst hN
    exact ⟨v, rfl, .ref a, rfl, a, C, rfl, T, noF, .inl ⟨ha, fun dx n ne => q dx n ne⟩⟩
end
/-! ### raise X(e), raise X() over plain data -/
def raiseS (t : Nat) (fs : Rho → R (List VD)) : Rho → O := fun ρ => (fs ρ).thnO fun vs ρ1 => match datAll vs with
  | some [d] => .err ⟨t, [d]⟩ ρ1
  | _ => .bad
def raise0S (t : Nat) : Rho → O := fun ρ => .err ⟨t, [.tup []]⟩ ρ
section
variable {X : Cx} {T : Tb} {W : WX} {p pos pos' : Pos} {e : Expr} {es : List Expr} {fs : Rho → R (List VD)}
theorem xs_raise1 {t : Nat} {x f : Str} {fI : Addr} {fd : FuncData} (hc : X.calm = true) (tk : Takes X W) (Ec : EC X.K X.mg x f (T t) fI) (F1 : FnOk X.prog X.w X.K X.mg X.base (L2.CX X.prog X.w) 1 fI fd ["self", f] (spIn X.K (T t) f)) (hr : Room 2 X.A) (hb : Binds X.K fd ["self", f] [])
    (hf : flds t = [f]) (ha : XA X T W (e :: es) fs) (hg : L2.Gl X x := by rfl) (hdb : (x == ("__debug__" : Str)) = false := by decide) (he : starEach (e :: es) X.env = (false, eval e X.env) :: starEach es X.env := by rfl) (hpl : (backTo pos (starEach es X.env)).any (·.1) = false := by rfl) :
    XS X T W (.Raise (some (.Call (.Name x p) (e :: es) [] pos)) none pos') (raiseS t fs) := (ps_raise hc tk (pmk_x1 Ec.ox Ec.iC Ec.tI F1 hr hb Ec.gC ha hg hdb he hpl)).impQ fun De σ H q => by
  obtain ⟨β, G, S, ρ, o, p⟩ := q
  refine ⟨β, G, S, ρ, o, PostS.thn (Rl := RpVs X.K T σ) p fun S1 H1 ρ1 vs us e1 o1 h1 p1 => ?_⟩
  split at p1
  case h_2 => exact p1.elim
  case h_1 d q =>
  have r := datAll_rps q h1
  obtain ⟨u, ur, rfl, hu, hur⟩ := r
  obtain rfl : ur = [] := hur
  refine ⟨by show 1 ≤ 1000; decide, fun a ha => ⟨a, u, rfl, upd_same, fun dx hdx hne => ⟨rfl, dx, [(f, u)], upd_same, by rw [upd_ne hne, upd_same], by rw [upd_ne hne] at hdx; exact hdx, ?_⟩⟩⟩
  have hdx' : H1 dx = none := by rw [upd_ne hne] at hdx; exact hdx
  have hH : upd (L2.del (upd (upd (upd H1 a (exo a (T t) none)) dx (exd dx [(f, u)])) a (exo a (T t) (some dx))) a) dx (.xd [(f, u)]) = upd H1 dx (.xd [(f, u)]) := by
    funext b
    by_cases hb : b = dx
    · subst hb; rw [upd_same, upd_same]
    · rw [upd_ne hb, upd_ne hb]
      by_cases hba : b = a
      · subst hba; rw [del_same, ha]
      · rw [del_ne hba, upd_ne hba, upd_ne hb, upd_ne hba]
  rw [hH]
  have e2 := Ext.new (S := S1) (H := H1) (p := dx) (o := .xd [(f, u)]) o1.sh hdx'
  exact p1 _ σ _ _ _ e2.s (o1.ext e2) ⟨rfl, dx, [u], rfl, by rw [upd_same, hf]; rfl, u, [], rfl, Rp.mono e2.s _ _ hu, rfl⟩
/-- e.f, e an error that was caught -/
def tXk (K : PySem.W.Frag) (f : Str) (te : TE) : TE := fun σ H Q => te σ H fun x H1 => ∃ (a C dd : Addr) (fs : List (Str × V)) (v : V), x = .ref a ∧ XfC K C ∧ PySem.W.findIn K (.ref C) f = some none ∧ H1 a = some (ExK C dd a) ∧ H1 dd = some (.xd fs) ∧ fs.lookup f = some v ∧ Q v H1
theorem pe_xk {te : TE} {n : Str} (he : PE X e te) (hb : attributeBase e n X.env (eval e X.env) = eval e X.env := by rfl) : PE X (.Attribute e n pos) (tXk X.K n te) := by
  refine ⟨fun pins s σ H Q I h => ?_⟩
  refine attr_of hb (thn (he.run pins s σ H _ I h) fun u s1 hh => ?_)
  obtain ⟨x, H1, I1, rx, a, C, dd, fs, v, ex, T, hno, ea, ed, l, q⟩ := hh
  subst ex
  obtain rfl : u = Value.ref a := rx
  obtain ⟨⟨oe, vs, ha, hz, hd⟩, _⟩ : ObjOk X.prog X.w H1 s1.heap a (ExK C dd a) := I1.hok a _ ea
  have hx : ObjOk X.prog X.w H1 s1.heap dd (.xd fs) := I1.hok dd _ ed
  obtain ⟨mA, hns, hr⟩ := hx
  obtain ⟨od, ho, hl⟩ := lookIn_ns hns
  obtain ⟨u, hu, ru⟩ := RelO.some_of (v := v) (o := mA n) (by rw [← l]; exact hr n)
  have J : PySem.W.InstAt s1.heap a oe C (some od) := ⟨ha, hz.1, by unfold PySem.W.notCls; rw [hd] <;> rfl, by rw [hz.2]; exact ho⟩
  exact HandSPX.exc_get I1.kIn J T.ga T.gg T.exC (PySem.W.findObj_own T.hdC hno rfl (by rw [hl, hu])) (handed_of ru) ⟨v, H1, I1.tok _, ru, q⟩
/-- the field f of an error of one of the classes ts -/
def fldD (ts : List Nat) (f : Str) : D → Option D
  | .obj t [d] => if isEx t && ts.contains t && decide (flds t = [f]) then some d else none
  | _ => none
theorem xe_efld {ts : List Nat} {n : Str} {fa : Rho → R VD} (hT : ∀ t ∈ ts, XfC X.K (T t) ∧ PySem.W.findIn X.K (.ref (T t)) n = some none) (he : XE X T W e fa) (hb : attributeBase e n X.env (eval e X.env) = eval e X.env := by rfl) : XE X T W (.Attribute e n pos) (op1E (fldD ts n) fa) :=
  (pe_xk he hb).impQ fun σ H Q h => by
    refine tUn_of (r := fun x H1 Q => ∃ (a C dd : Addr) (fs : List (Str × V)) (v : V), x = .ref a ∧ XfC X.K C ∧ PySem.W.findIn X.K (.ref C) n = some none ∧ H1 a = some (ExK C dd a) ∧ H1 dd = some (.xd fs) ∧ fs.lookup n = some v ∧ Q v H1) ?_ h
    intro S H x dx d Q e hx hd g
    unfold fldD at hd
    split at hd
    · rename_i t d0
      split at hd
      · rename_i hh
        cases hd
        rw [Bool.and_eq_true, Bool.and_eq_true] at hh
        obtain ⟨⟨h1, h2⟩, h3⟩ := hh
        obtain ⟨t1, t2⟩ := hT t (by simpa using h2)
        rcases hx with ⟨a, vs, rfl, ob, rps⟩ | ⟨_, _, _, _, z, _⟩
        · rcases ob with ⟨_, dd, s1, s2⟩ | ⟨z, _⟩ | ⟨z, _⟩ | ⟨z, _⟩ | ⟨z, _⟩
          · obtain ⟨v, vr, rfl, rv, hvr⟩ := rps
            obtain rfl : vr = [] := hvr
            rw [of_decide_eq_true h3] at s2
            exact ⟨a, T t, dd, [(n, v)], v, rfl, t1, t2, e _ _ s1, e _ _ s2, by simp [List.lookup], g.now e rv⟩
          · rw [sl_ex z] at h1; cases h1
          · rw [fn_ex z] at h1; cases h1
          · rw [dc_ex z] at h1; cases h1
          · rw [pt_ex z] at h1; cases h1
        · cases z
      · cases hd
    · cases hd
end
end Lq
namespace Lq
open PySem PySem.Spec PyProof.Rows L2
/-! ### tables of classes -/
def tbT (l : List (Nat × Addr)) : Tb := fun t => (l.lookup t).getD 0
def clsAt : Stmt → Nat → Stmt
  | .ClassDef _ _ _ body _ _ _ _ _ _ _, j => body.getD j (.Pass ⟨0, 0, 0, 0⟩)
  | s, _ => s
theorem exs_nil {K : PySem.W.Frag} {T : Tb} {c : Value} : ∀ t b, List.lookup t ([] : List (Nat × Bool)) = some b → PySem.W.exmOne K (.ref (T t)) c = some b := fun t b h => by cases h
theorem exs_cons {K : PySem.W.Frag} {T : Tb} {c : Value} {t0 : Nat} {b0 : Bool} {r : List (Nat × Bool)} (h : PySem.W.exmOne K (.ref (T t0)) c = some b0) (hr : ∀ t b, List.lookup t r = some b → PySem.W.exmOne K (.ref (T t)) c = some b) :
    ∀ t b, List.lookup t ((t0, b0) :: r) = some b → PySem.W.exmOne K (.ref (T t)) c = some b := fun t b q => by
  rw [List.lookup_cons] at q
  by_cases e : t = t0
  · subst e
    simp at q
    rw [← q]; exact h
  · have : (t == t0) = false := by simpa using e
    rw [this] at q
    exact hr t b q
theorem exf_nil {K : PySem.W.Frag} {T : Tb} {n : Str} : ∀ t ∈ ([] : List Nat), XfC K (T t) ∧ PySem.W.findIn K (.ref (T t)) n = some none := fun t h => by cases h
theorem exf_cons {K : PySem.W.Frag} {T : Tb} {n : Str} {t0 : Nat} {r : List Nat} (h1 : XfC K (T t0)) (h2 : PySem.W.findIn K (.ref (T t0)) n = some none) (hr : ∀ t ∈ r, XfC K (T t) ∧ PySem.W.findIn K (.ref (T t)) n = some none) :
    ∀ t ∈ t0 :: r, XfC K (T t) ∧ PySem.W.findIn K (.ref (T t)) n = some none := fun t h => by
  rcases List.mem_cons.1 h with rfl | h
  · exact ⟨h1, h2⟩
  · exact hr t h
/-! ### a new list by either way of a test; s.split(t) as a new list -/
section
variable {X : Cx} {T : Tb} {W : WX} {a b c : Expr} {pos : Pos} {ft : Rho → R Bool}
def ifF (ft : Rho → R Bool) (f g : Rho → R (List D)) : Rho → R (List D) := fun ρ => (ft ρ).bind fun k ρ1 => if k then f ρ1 else g ρ1
end
end Lq
namespace Lq
open PySem PySem.Spec PyProof.Rows L2
/-! ### sets of keys (ints, texts), with what a walk over them wants -/
def kOf (e : Int × Value) : Key := match e.2 with
  | .int k _ => .inl k
  | .str x _ => .inr x
  | _ => .inl 0
def GdK (w : World) (e : Int × Value) : Prop := keyIs (kOf e) e.2 = true ∧ e.1 = keyH w (kOf e)
def SetG (w : World) (h : Heap) (a : Addr) (ks : List Key) : Prop := ∃ (o : Obj) (es : Array (Int × Value)) (ep : Nat) (t : SetTable), h.get? a = some o ∧ o.ExactSet ∧ o.data = .set es ep t ∧
  ((∀ e ∈ es.toList, GdK w e) ∧ (es.toList.map kOf).Nodup ∧ ∀ k, k ∈ ks ↔ k ∈ es.toList.map kOf) ∧ es.size < scanBound ∧ t.fits es.size = true ∧ Ris t.place.toList ∧ (w.params.followText "set-order" = true ∨ t.led = true)
theorem SetG.at {w : World} {h h' : Heap} {a : Addr} {ks : List Key} (R : SetG w h a ks) (k : ∀ o, h.get? a = some o → h'.get? a = some o) : SetG w h' a ks := by
  obtain ⟨o, es, ep, t, ho, rest⟩ := R
  exact ⟨o, es, ep, t, k o ho, rest⟩
end Lq
namespace Lq
open PySem PySem.Spec PyProof.Rows L2
/-! ### set(x), sorted(set(x)), len(set(x)) -/
/-! ### over plain data -/
theorem items_sq {K : PySem.W.Frag} {T : Tb} {S H : Hp} {x : D} {u : V} {xs : List D} (e : SameT T S H) (h : RpH K T S H x u) (hi : x.items? = some xs) : ∃ a vs, u = .ref a ∧ SqA K H a vs ∧ Rps K T S xs vs := by
  cases x with
  | lst ys =>
    cases hi
    obtain ⟨a, vs, rfl, h1, h2⟩ := h.lst e
    exact ⟨a, vs, rfl, .inl (SqL.of h1), h2⟩
  | tup ys =>
    cases hi
    obtain ⟨a, vs, rfl, h1, h2⟩ := h.tup e
    exact ⟨a, vs, rfl, .inr h1, h2⟩
  | _ => cases hi
end Lq
namespace Lq
open PySem PySem.Spec PyProof.Rows L2 PySem.W
/-! ### isinstance(e, C), e an error that was caught -/
section
variable {prog : Program} {w : World} {A : Around} {E : Value → Shared → Prop} {s : Shared} {K : Frag} {x D : Addr} {ox : Obj} {od : Option Obj}
theorem find_data {C : Addr} {n : Str} {a g : Value} (hc : (clsIn K C).isSome = true) (ha : findIn K (.ref C) n = some (some a)) (hg : specialIn K a "__get__" = some (some g)) (ht : takesIn K a = some true) : findObj K C od n = some (.bind g a) := by
  obtain ⟨cd, e⟩ := Option.isSome_iff_exists.mp hc
  simp [findObj, e, ha, hg, ht]
theorem class_of_err {Q : Option Value → Shared → Prop} (C : ExcC K D) (X : K.In s.heap) (I : InstAt s.heap x ox D od) (h : Q (some (.ref D)) { s with toks := s.toks + 1 }) : wpAny (model prog w) A (getAttr? (.ref x) "__class__") Q E s := by
  have found : findObj K D od "__class__" = some (.bind (.builtin "getset_descriptor.__get__") (.builtin "object.__class__")) := find_data (by obtain ⟨cd, hc, _⟩ := any_some C.hd; rw [hc]; rfl) C.ha C.hn C.ht
  obtain ⟨hp, gs, dr, tk, os⟩ := s
  have T0 := I.type (M := model prog w)
  have T1 := looks_findIn (M := model prog w) X C.hg
  have T2 := looks_findIn (M := model prog w) X C.hk
  have T3 := looks_find (M := model prog w) X I found
  have below : Looks (model prog w) hp (isInstance (.ref x) (.type "BaseException")) true := T0.andThen (looks_subIn X C.hs)
  have z0 : (false && onTheHeap (Value.builtin "BaseException.__getattribute__")) = false := rfl
  have z1 : (onTheHeap (Value.ref D) && Value.builtin "BaseException.__getattribute__" == Value.builtin "object.__getattribute__") = false := by
    rw [show (Value.builtin "BaseException.__getattribute__" == Value.builtin "object.__getattribute__") = false by decide +kernel]
    rfl
  unfold getAttr? getAttrBy? getAttrBy
  refine wpAny_bind (wpAny_mkText (wpAny_bind (wpAny_attempt (wpAny_holding (wpAny_bind (T0.at (wpAny_bind (T1.at ?_))))))))
  show wpAny _ _ (if (onTheHeap (Value.ref D) && Value.builtin "BaseException.__getattribute__" == Value.builtin "object.__getattribute__") = true then _ else _) _ _ _
  rw [z1, if_neg Bool.false_ne_true]
  unfold getAttrByItsOwn hookBefore
  refine wpAny_bind ?_
  rw [if_pos (show onTheHeap (Value.ref D) = true from rfl)]
  refine T2.at (wpAny_bind (wpAny_attempt (wpAny_holding ?_)))
  unfold callGetattribute
  rw [z0, if_neg Bool.false_ne_true]
  unfold boundAndCalled
  rw [PySem.F.excAttr_ValueError.ga.bind (.ref x)]
  refine wpAny_bind (wpAny_pure ?_)
  show wpAny _ _ (call (.builtin "BaseException.__getattribute__") [.ref x, .str "__class__" tk]) _ _ _
  refine wpAny_call (codeAny_call_builtin PySem.F.excAttr_ValueError.ga.plain PySem.F.entry_bexc_ga ?_)
  refine @check_slot (model prog w) _ _ ⟨hp, gs, dr, tk + 1, os⟩ "BaseException.__getattribute__" "BaseException" "__getattribute__" (.ref x) [.str "__class__" tk] [] _ (by decide +kernel) (by decide +kernel) below (PySem.F.args_bexc_ga (.ref x) (.str "__class__" tk)) ?_
  unfold Builtin.«object.__getattribute__»
  refine wpAny_bind (wpAny_of_eq (a := ((Value.ref x : Value), [Value.str "__class__" tk])) (by first | rfl | (simp only [slotArgs]; rfl)) (wpAny_bind (wpAny_pure (wpAny_bind (T0.at (wpAny_bind (T3.at ?_)))))))
  show wpAny _ _ (holding [Value.builtin "object.__class__"] (call (.builtin "getset_descriptor.__get__") [.builtin "object.__class__", .ref x, .ref D]) >>= ret) _ _ _
  refine wpAny_bind (wpAny_holding (wpAny_call (class_get (s := ⟨hp, gs, dr, tk + 1, os⟩) (ox := ox) (od := od) X I C.hm (wpAny_pure ?_))))
  show wpAny _ _ (handedOut (.ref D)) _ _ _
  rw [handedOut_of (v := .ref D) rfl]
  first
    | exact wpAny_pure (wpAny_pure h)
    | exact wpAny_pure h
    | exact wpAny_pure (wpAny_bind (wpAny_pure (wpAny_pure h)))
theorem kit_err (C : ExcC K D) : KitX K (.ref x) (.ref D) (fun h => ∃ ox od, InstAt h x ox D od) where
  ty := fun _ _ _ ⟨_, _, I⟩ => I.type
  it := fun _ _ X _ => by
    obtain ⟨cdD, q, _⟩ := any_some C.hd
    unfold clsIn at q
    split at q
    · rename_i ho
      intro A' Q' E' s' k r
      unfold isType loadHead
      exact wpAny_bind (wpAny_loadPart (k _ _ (X _ _ ho)) (wpAny_pure r))
    · cases q
  ne := fun h tp dd its n sl X htp => by
    obtain ⟨cdD, q, _⟩ := any_some C.hd
    refine Bool.eq_false_iff.mpr fun y => ?_
    obtain rfl : D = tp := Value.ref.inj (beq_iff_eq.mp y)
    unfold clsIn at q
    split at q
    · rename_i ho
      cases (X _ _ ho).symm.trans htp
    · cases q
  ca := fun X ⟨_, _, I⟩ k => class_of_err C X I k
end
def rIsK (K : PySem.W.Frag) : List V → Hp → VK → Prop := fun xs H Q => ∃ (a C dd : Addr) (fs : List (Str × V)) (c : V) (cv : Value) (b : Bool), xs = [.ref a, c] ∧ (∀ u, RelV c u → u = cv) ∧ ExcC K C ∧ H a = some (ExK C dd a) ∧ H dd = some (.xd fs) ∧ PySem.W.kitOne K (.ref C) cv = some b ∧ Q (.bl b) H
theorem call_isK {X : Cx} : CallR X (.builtin "isinstance") (rIsK X.K) := by
  intro pins s σ H xs us Q I r h
  obtain ⟨a, C, dd, fs, c, cv, b, rfl, hcv, eC, ea, ed, e, q⟩ := h
  cases r with
  | cons rx rr =>
    cases rr with
    | cons rt rr =>
      cases rr
      cases rx
      obtain rfl := hcv _ rt
      obtain ⟨⟨oe, vs, ha, hz, hd⟩, _⟩ : ObjOk X.prog X.w H s.heap a (ExK C dd a) := I.hok a _ ea
      have hx : ObjOk X.prog X.w H s.heap dd (.xd fs) := I.hok dd _ ed
      obtain ⟨mA, hns, hr⟩ := hx
      obtain ⟨od, ho, hl⟩ := lookIn_ns hns
      have J : PySem.W.InstAt s.heap a oe C (some od) := ⟨ha, hz.1, by unfold PySem.W.notCls; rw [hd] <;> rfl, by rw [hz.2]; exact ho⟩
      exact PySem.W.kia_one (kit_err eC) I.kIn ⟨oe, _, J⟩ e (fun z => nomatch z) fun tk => ⟨.bl b, H, I.kept (t' := tk) fun _ _ z => z, rfl, q⟩
/-- isinstance of an error: the answers by its class -/
def isErrD (ex : List (Nat × Bool)) : D → Option D
  | .obj t [_] => if isEx t then (match ex.lookup t with | some b => some (.bl b) | none => none) else none
  | _ => none
section
variable {X : Cx} {T : Tb} {W : WX} {e : Expr} {fa : Rho → R VD} {p p2 pos : Pos} {ex : List (Nat × Bool)}
theorem isErr_of {K : PySem.W.Frag} {c : V} {cv : Value} {te : TE} {σ : L2.St} {H : Hp} {Q : VK} (hT : ∀ t b, ex.lookup t = some b → ExcC K (T t) ∧ PySem.W.kitOne K (.ref (T t)) cv = some b) (hcv : ∀ u, RelV c u → u = cv) (h : rE K T W (op1E (isErrD ex) fa) σ H Q)
    (hc : ∀ H' Q', Q' c H' → te σ H' Q') : rE K T W fa σ H fun x H1 => te σ H1 fun y H2 => rIsK K [x, y] H2 Q := by
  obtain ⟨β, G, S, ρ, o, p⟩ := h
  refine ⟨β, G, S, ρ, o, Post.thn (Rl := RpV K T σ) p fun S1 H1 ρ1 v u e1 o1 h1 p1 => hc _ _ ?_⟩
  refine Post.lift1 (r := fun x H1 Q => rIsK K [x, c] H1 Q) ?_ o1 h1 p1
  intro S H x dx d Q e hx hd g
  unfold isErrD at hd
  split at hd
  case h_2 => cases hd
  case h_1 t d0 =>
  split at hd
  case isFalse => cases hd
  case isTrue ie =>
  split at hd
  case h_2 => cases hd
  case h_1 b hb =>
  cases hd
  obtain ⟨t1, t2⟩ := hT t b hb
  rcases hx with ⟨a, vs, rfl, ob, rps⟩ | ⟨_, _, _, _, z, _⟩
  · rcases ob with ⟨_, dd, s1, s2⟩ | ⟨z, _⟩ | ⟨z, _⟩ | ⟨z, _⟩ | ⟨z, _⟩
    · exact ⟨a, T t, dd, _, c, cv, b, rfl, hcv, t1, e _ _ s1, e _ _ s2, t2, g.now e rfl⟩
    · rw [sl_ex z] at ie; cases ie
    · rw [fn_ex z] at ie; cases ie
    · rw [dc_ex z] at ie; cases ie
    · rw [pt_ex z] at ie; cases ie
  · cases z
theorem xe_isErr {x : Str} {C : Addr} (hz : X.mg "isinstance" = none) (hm : X.mg x = some (.ref C)) (hT : ∀ t b, ex.lookup t = some b → ExcC X.K (T t) ∧ PySem.W.kitOne X.K (.ref (T t)) (.ref C) = some b) (ha : XE X T W e fa) (hgx : L2.Gl X x := by rfl) (hdx : (x == ("__debug__" : Str)) = false := by decide)
    (hg : L2.Gl X "isinstance" := by rfl) (he : starEach [e, .Name x p2] X.env = (false, eval e X.env) :: starEach [.Name x p2] X.env := by rfl) (he2 : starEach [.Name x p2] X.env = (false, eval (.Name x p2) X.env) :: starEach [] X.env := by rfl) :
    XE X T W (.Call (.Name "isinstance" p) [e, .Name x p2] [] pos) (op1E (isErrD ex) fa) :=
  (pe_callB call_isK hg hz (by decide +kernel) (pa_cons ha (pa_cons (pe_glob (v := .ref C) hgx hm rfl hdx) pa_nil he2) he) (by decide) (by decide) he (by rw [he2]; rfl)).impQ fun σ H Q h =>
    isErr_of (c := .ref C) (te := tC (.ref C)) hT (fun _ z => z) h fun _ _ q => q
theorem xe_isErrB {x : Str} {n : String} (hz : X.mg "isinstance" = none) (hm : X.mg x = none) (hv : bootBuiltins x = some (.type n)) (hT : ∀ t b, ex.lookup t = some b → ExcC X.K (T t) ∧ PySem.W.kitOne X.K (.ref (T t)) (.type n) = some b) (ha : XE X T W e fa) (hgx : L2.Gl X x := by rfl) (hdx : (x == ("__debug__" : Str)) = false := by decide) (hn : x ≠ "__name__" := by decide)
    (hg : L2.Gl X "isinstance" := by rfl) (he : starEach [e, .Name x p2] X.env = (false, eval e X.env) :: starEach [.Name x p2] X.env := by rfl) (he2 : starEach [.Name x p2] X.env = (false, eval (.Name x p2) X.env) :: starEach [] X.env := by rfl) :
    XE X T W (.Call (.Name "isinstance" p) [e, .Name x p2] [] pos) (op1E (isErrD ex) fa) :=
  (pe_callB call_isK hg hz (by decide +kernel) (pa_cons ha (pa_cons (pe_bltn (v := .ty n) hgx hm hv rfl hn hdx) pa_nil he2) he) (by decide) (by decide) he (by rw [he2]; rfl)).impQ fun σ H Q h =>
    isErr_of (c := .ty n) (te := tC (.ty n)) hT (fun _ z => z) h fun _ _ q => q
end
theorem exi_nil {K : PySem.W.Frag} {T : Tb} {c : Value} : ∀ t b, List.lookup t ([] : List (Nat × Bool)) = some b → ExcC K (T t) ∧ PySem.W.kitOne K (.ref (T t)) c = some b := fun t b h => by cases h
theorem exi_cons {K : PySem.W.Frag} {T : Tb} {c : Value} {t0 : Nat} {b0 : Bool} {r : List (Nat × Bool)} (h0 : ExcC K (T t0)) (h : PySem.W.kitOne K (.ref (T t0)) c = some b0) (hr : ∀ t b, List.lookup t r = some b → ExcC K (T t) ∧ PySem.W.kitOne K (.ref (T t)) c = some b) :
    ∀ t b, List.lookup t ((t0, b0) :: r) = some b → ExcC K (T t) ∧ PySem.W.kitOne K (.ref (T t)) c = some b := fun t b q => by
  rw [List.lookup_cons] at q
  by_cases e : t = t0
  · subst e
    simp at q
    rw [← q]; exact ⟨h0, h⟩
  · have : (t == t0) = false := by simpa using e
    rw [this] at q
    exact hr t b q
end Lq
namespace Lq
open PySem PySem.Spec PyProof.Rows L2
/-! ### keywords in any order -/
section
variable {X : Cx} {T : Tb} {W : WX} {e : Expr} {es : List Expr} {fs : Rho → R (List VD)} {pos : Pos}
/-- the values by the parameters' order: pm tells where each stands among the keywords -/
def permL {α : Type} (pm : List Nat) (xs : List α) : List α := pm.filterMap fun i => xs[i]?
/-- the values, by the parameters -/
def permA (n : Nat) (pm : List Nat) (fs : Rho → R (List VD)) : Rho → R (List VD) := fun ρ => (fs ρ).bind fun vs ρ1 => if vs.length = n then .ok (permL pm vs) ρ1 else .bad
theorem RpVs.length {K : PySem.W.Frag} {σ : L2.St} {S : Hp} : ∀ {vs : List VD} {us : List V}, RpVs K T σ S vs us → us.length = vs.length
  | [], _, h => by rw [show _ = [] from h]; rfl
  | _ :: _, _, ⟨u, r, e1, h, hs⟩ => by rw [e1, List.length_cons, List.length_cons, RpVs.length hs]
end
end Lq
namespace Lq
open PySem PySem.Spec PyProof.Rows L2
/-! ### the law's own promise, whatever the table of classes -/
def spA (K : PySem.W.Frag) (n : Nat) (F : List D → Res) : Sp := fun vs H Q E => ∀ T, T 91 = 0 → spP K T n F vs H Q E
/-! ### enumerate of lists and tuples, from any count -/
theorem meets_enum1 {v : Value} {o : Obj} {H : Heap → Prop} (B : Begins v o H) : Meets (Builtin.«enumerate.__new__» ⟨[.type "enumerate", v], []⟩) (fun _ R s => H s.heap ∧
      R (.ok (.ret (.ref (s.heap.push o).objs.size))) { s with heap := (s.heap.push o).push { cls := .type "enumerate", data := .fields #[.none, .bool false, .ref s.heap.objs.size, rawInt 0, .none, .none] } }) :=
  .of_wp fun prog w A R s ⟨h1, h⟩ => by
    obtain ⟨hp, gs, dr, tk, os⟩ := s
    have below := sub_enumerate
    have q1 : ∀ {A' : Around} {E : Value → Shared → Prop} {Q : Value → Shared → Prop}, Q (.ref hp.objs.size) ⟨hp.push o, gs, dr, tk, os⟩ → wpAny (model prog w) A' (pyIter v) Q E ⟨hp, gs, dr, tk, os⟩ := fun q => B.iter prog w _ _ ⟨hp, gs, dr, tk, os⟩ _ h1 q
    wp_walk using q1
    refine wpAny_stack_any fun st => wpAny_pure ?_
    split
    · rename_i c _ _ _ _ _
      cases (c == Value.type "enumerate") <;> (wp_walk using q1; exact ⟨_, rfl, h⟩)
    · wp_walk using q1
      exact ⟨_, rfl, h⟩
section
variable {prog : Program} {w : World} {A : Around} {E : Value → Shared → Prop} {s : Shared}
theorem enum_begin1 {v : Value} {o : Obj} {H : Heap → Prop} {Q : Value → Shared → Prop} (B : Begins v o H) (h1 : H s.heap)
    (h : ∀ h', IsEnum h' (s.heap.objs.size + 1) s.heap.objs.size 0 .none → h'.get? s.heap.objs.size = some o → (∀ b o, s.heap.get? b = some o → h'.get? b = some o) → Q (.ref (s.heap.objs.size + 1)) { s with heap := h' }) :
    wpAny (model prog w) A (call (.type "enumerate") [v]) Q E s := by
  refine callType_new F.called_enumerate (by decide) (F.typeCall_enumerate_1 _) (F.newCall_enumerate_1 _) (fun obj => F.args_object_init_2 obj _) F.entry_enumerate_new (meets_enum1 B) ⟨h1, ?_⟩
  have sz : (s.heap.push o).objs.size = s.heap.objs.size + 1 := Heap.size_push ..
  show _ ∧ _
  rw [sz]
  have en : IsEnum ((s.heap.push o).push { cls := .type "enumerate", data := .fields #[.none, .bool false, .ref s.heap.objs.size, rawInt 0, .none, .none] }) (s.heap.objs.size + 1) s.heap.objs.size 0 .none := by
    have z := Heap.get?_push_size (s.heap.push o) (o := { cls := .type "enumerate", data := .fields #[.none, .bool false, .ref s.heap.objs.size, rawInt 0, .none, .none] }) rfl
    rwa [sz] at z
  exact ⟨⟨_, en, rfl⟩, h _ en (Heap.get?_push_of_some _ (Heap.get?_push_size _ B.free)) fun b o x => Heap.get?_push_of_some _ (Heap.get?_push_of_some _ x)⟩
end
/-- the items xs of the list or tuple at a, each in a new pair, counted from k -/
def Itn2 (Sq : Hp → Prop) (xs : List V) (k : Int) : It :=
  ⟨fun i H => Sq H ∧ i < xs.length, fun i H v H' => ∃ T x, v = .ref T ∧ H T = none ∧ H' = upd H T (.tup [.int (k + (i : Nat)), x]) ∧ xs[i]? = some x, fun i H => Sq H ∧ i = xs.length⟩
/-- what a kind of sequence has to say: where its items lie, how its iterator draws -/
structure SeqK (P : Program) (w : World) (K : PySem.W.Frag) (a it : Addr) (Sq : Hp → Prop) (xs : List V) (ItA : Nat → Heap → Prop) (At : Heap → Array Value → Prop) : Prop where
  inv : ∀ {X : Cx} {pins : List (Addr × Obj)} {σ : L2.St} {H : Hp} {s : Shared}, X.K = K → Inv X pins σ H s → Sq H → ∃ its : List Value, Vals xs its ∧ At s.heap its.toArray
  draw : ∀ {A : Around} (items : Array Value), A.handled = none → Draws P w A it [it, a] items.size (fun i v => items[i]? = some v) (fun i h => ItA i h ∧ At h items)
  at_ : ∀ {i : Nat} {h h' : Heap}, ItA i h → (∀ o, h.get? it = some o → h'.get? it = some o) → ItA i h'
  obj : ∀ {i : Nat} {h : Heap}, ItA i h → ∃ o, h.get? it = some o ∧ ∀ v, o.data ≠ .cell v
  ne : a ≠ it
  there : ∀ {h : Heap} {items : Array Value}, At h items → a < h.objs.size
theorem turn_enumG {P : Program} {w : World} {K : PySem.W.Frag} {elts : List Expr} {kk : Nat} {tpos : Pos} {a e it : Addr} {Sq : Hp → Prop} {xs : List V} {ItA : Nat → Heap → Prop} {At : Heap → Array Value → Prop} {k : Int} (S : SeqK P w K a it Sq xs ItA At) (hae : a ≠ e) :
    Turn P w K (.Tuple elts kk tpos) (Itn2 Sq xs k) [e, it] e (fun i h => (∃ old, IsEnum h e it (k + (i : Nat)) old) ∧ ItA i h ∧ e ≠ it) where
  mem := List.mem_cons_self
  obj := fun i h ⟨⟨old, he⟩, hi, _⟩ b hb => by
    rcases List.mem_cons.1 hb with z | z
    · subst z; exact ⟨_, he, fun v q => nomatch q⟩
    · rw [List.mem_singleton.1 z]; exact S.obj hi
  keep := fun i h h' ⟨⟨old, he⟩, hi, hne⟩ kp => ⟨⟨old, kp e List.mem_cons_self _ he⟩, S.at_ hi fun o q => kp it (List.mem_cons_of_mem _ List.mem_cons_self) o q, hne⟩
  item := by
    rintro X rfl rfl hK hc i pins s σ H E I hf ⟨⟨old, he⟩, hit, hne⟩ ⟨hq, hi⟩
    obtain ⟨its, rv, at1⟩ := S.inv hK I hq
    obtain ⟨x, hx⟩ : ∃ x, xs[i]? = some x := ⟨_, List.getElem?_eq_getElem hi⟩
    have hel : e < s.heap.objs.size := Heap.lt_size he
    have hil : it < s.heap.objs.size := by obtain ⟨o, q, _⟩ := S.obj hit; exact Heap.lt_size q
    have hs : i < its.toArray.size := by rw [List.size_toArray, ← rv.length]; exact hi
    have D := S.draw (A := X.A.in1) its.toArray (by rw [← I.ok.hd hc])
    refine wpAny_pyNext_enum_itemC D he ⟨hit, at1⟩ hs hne (fun z => ?_) fun u h' tk hu out st' hT hsz hk => ?_
    · rcases List.mem_cons.1 z with z | z
      · exact hne z
      · exact hae (List.mem_singleton.1 z).symm
    obtain ⟨u', hu', ru⟩ := rv.get hx
    have eu : u = u' := by rw [List.getElem?_toArray, hu'] at hu; exact (Option.some.inj hu).symm
    subst eu
    refine ⟨_, rfl, wpAny_letOwnedTupleGo_enum (s := { s with heap := h', toks := tk + 1 }) out fun h'' he' sb => ?_⟩
    have hT2 : h''.get? s.heap.objs.size = some { cls := .type "tuple", data := .seq #[.int (k + (i : Nat)) tk, u] } := (sb.2 _ (Nat.ne_of_gt hel)).trans hT
    have new : ObjOk X.prog X.w (upd H s.heap.objs.size (.tup [.int (k + (i : Nat)), x])) h'' s.heap.objs.size (.tup [.int (k + (i : Nat)), x]) := ⟨by show 2 ≤ sizeLine; decide, [.int (k + (i : Nat)) tk, u], .cons ⟨_, rfl⟩ (.cons ru .nil), ⟨_, hT2, rfl, _, rfl⟩⟩
    have I1 : Inv X pins σ (upd H s.heap.objs.size (.tup [.int (k + (i : Nat)), x])) { s with heap := h'', toks := tk + 1 } :=
      I.turnedNew (ch := [e, it]) (fun b ob hb q => (sb.2 b (fun z => hb (z ▸ List.mem_cons_self))).trans (hk b ob (fun z => hb (z ▸ List.mem_cons_self)) (fun z => hb (z ▸ List.mem_cons_of_mem _ List.mem_cons_self)) q)) hf (Nat.le_refl _) new
    refine ⟨.ref s.heap.objs.size, _, I1, rfl, ⟨_, x, rfl, I.hok.fresh (Nat.le_refl _), rfl, hx⟩, ⟨⟨u, ?_⟩, S.at_ st'.1 fun o q => (sb.2 it (Ne.symm hne)).trans q, hne⟩, fun b hb => ?_⟩
    · rw [show k + ((i + 1 : Nat) : Int) = k + (i : Nat) + 1 by omega]; exact he'
    · have lb : b < s.heap.objs.size := by
        rcases List.mem_cons.1 hb with z | z
        · rw [z]; exact hel
        · rw [List.mem_singleton.1 z]; exact hil
      rw [upd_ne (Nat.ne_of_lt lb)]
      exact (hf b hb).1
  done := by
    rintro X rfl rfl hK hc i pins s σ H E I hf ⟨⟨old, he⟩, hit, hne⟩ ⟨hq, rfl⟩
    obtain ⟨its, rv, at1⟩ := S.inv hK I hq
    obtain ⟨f0, f1, f2, f3, f4, f5⟩ := hf it (List.mem_cons_of_mem _ List.mem_cons_self)
    have D := S.draw (A := X.A.in1) its.toArray (by rw [← I.ok.hd hc])
    have hl : its.toArray.size = xs.length := by rw [List.size_toArray, ← rv.length]
    rw [hl] at D
    exact wpAny_pyNext_enum_endD D he ⟨hit, at1⟩ fun h' eb => ⟨rfl, I.turned (t' := s.toks) (fun b o hb q => eb b o hb q) f0 f1 f3 f4 f5⟩
  self := fun A i s Q E ⟨⟨_, he⟩, _⟩ h => wpAny_pyIter_enum he h
theorem seqK_list {P : Program} {w : World} {K : PySem.W.Frag} {a it : Addr} {xs : List V} (hne : a ≠ it) : SeqK P w K a it (fun H => SqL K H a xs) xs (fun i h => h.IsListIter it a i) (fun h items => h.IsList a items) where
  inv := fun hK I hq => by
    subst hK
    obtain ⟨its, rv, p, hz⟩ := I.list hq
    exact ⟨its, rv, p.isList⟩
  draw := fun items hh => Draws.list hh it a hne items
  at_ := fun hi q => hi.at q
  obj := fun ⟨o, ho, hc, hd⟩ => ⟨o, ho, fun v q => by rw [hd] at q; cases q⟩
  ne := hne
  there := fun ⟨o, ho, _⟩ => Heap.lt_size ho
theorem seqK_tup {P : Program} {w : World} {K : PySem.W.Frag} {a it : Addr} {xs : List V} (hne : a ≠ it) : SeqK P w K a it (fun H => SqT K H a xs) xs (fun i h => h.IsTupleIter it a i) (fun h items => h.IsTuple a items) where
  inv := fun hK I hq => by
    subst hK
    obtain ⟨its, rv, p, hz⟩ := I.tuple hq
    exact ⟨its, rv, p⟩
  draw := fun items hh => Draws.tuple hh it a hne items
  at_ := fun hi q => hi.at q
  obj := fun ⟨o, ho, hc, hd⟩ => ⟨o, ho, fun v q => by rw [hd] at q; cases q⟩
  ne := hne
  there := fun ⟨o, ho, _⟩ => Heap.lt_size ho
/-- enumerate(e), enumerate(e, k) -/
def iEnumG (K : PySem.W.Frag) (k : Int) (ta : TA) (ok : List V → V → Prop) : TI := fun σ H R => ta σ H fun vs H1 => ∃ a xs, ok vs (.ref a) ∧ ((SqL K H1 a xs ∧ R (Itn2 (fun H => SqL K H a xs) xs k) H1) ∨ (SqT K H1 a xs ∧ R (Itn2 (fun H => SqT K H a xs) xs k) H1))
section
variable {X : Cx} {e e2 : Expr} {ta : TA} {p pos tpos : Pos} {elts : List Expr} {kk : Nat}
theorem enum_done {pins : List (Addr × Obj)} {σ : L2.St} {H1 : Hp} {s1 : Shared} {R : It → Hp → Prop} {a : Addr} {xs : List V} {k : Int} {h' : Heap} {Sq : Hp → Prop} {ItA : Nat → Heap → Prop} {At : Heap → Array Value → Prop} (I1 : Inv X pins σ H1 s1) (la : a < s1.heap.objs.size) (he : IsEnum h' (s1.heap.objs.size + 1) s1.heap.objs.size k .none) (hk : ∀ b o, s1.heap.get? b = some o → h'.get? b = some o)
    (S : SeqK X.prog X.w X.K a s1.heap.objs.size Sq xs ItA At) (st : ItA 0 h') (q : R (Itn2 Sq xs k) H1) : wpAny (model X.prog X.w) X.A (pyIter (.ref (s1.heap.objs.size + 1))) (PIE X pins σ (.Tuple elts kk tpos) R) X.xe { s1 with heap := h' } := by
  refine wpAny_pyIter_enum he ⟨s1.heap.objs.size + 1, [s1.heap.objs.size + 1, s1.heap.objs.size], _, _, H1, rfl, I1.kept (t' := s1.toks) hk, turn_enumG (k := k) S (Nat.ne_of_lt (Nat.lt_succ_of_lt la)), ⟨⟨.none, ?_⟩, st, Nat.succ_ne_self _⟩, fun b hb => ?_, q⟩
  · rw [show k + ((0 : Nat) : Int) = k by omega]; exact he
  · have le : s1.heap.objs.size ≤ b := by
      rcases List.mem_cons.1 hb with z | z
      · rw [z]; exact Nat.le_succ _
      · rw [List.mem_singleton.1 z]; exact Nat.le_refl _
    exact I1.fpOk le (I1.hok.fresh le)
theorem pi_enumG (hg : L2.Gl X "enumerate") (hm : X.mg "enumerate" = none) (ha : PA X [e] ta) (hs : starEach [e] X.env = [(false, eval e X.env)] := by rfl) :
    PI X (.Tuple elts kk tpos) (.Call (.Name "enumerate" p) [e] [] pos) (iEnumG X.K 0 ta fun vs r => vs = [r]) := by
  refine ⟨fun pins s σ H R I h => Call_ (ld_blt I hg hm boot_enumerate (PyProof.Rows.callWith_type1 (thn (ha.run pos pins s σ H _ I h) fun us s1 ⟨vs, H1, I1, r1, a, xs, ex, q1⟩ => ?_) hs rfl))⟩
  subst ex
  rw [Vals.ref1 r1]
  rcases q1 with ⟨hq, q⟩ | ⟨hq, q⟩
  · obtain ⟨its, rv, p', hz⟩ := I1.list hq
    have la : a < s1.heap.objs.size := by obtain ⟨o, ho, _⟩ := p'.isList; exact Heap.lt_size ho
    exact enum_begin1 (begins_list a _) p'.isList fun h' he hit hk => enum_done I1 la he hk (seqK_list (Nat.ne_of_lt la)) ⟨_, hit, rfl, rfl⟩ q
  · obtain ⟨its, rv, p', hz⟩ := I1.tuple hq
    have la : a < s1.heap.objs.size := by obtain ⟨o, ho, _⟩ := p'; exact Heap.lt_size ho
    exact enum_begin1 (begins_tuple a _) p' fun h' he hit hk => enum_done I1 la he hk (seqK_tup (Nat.ne_of_lt la)) ⟨_, hit, rfl, rfl⟩ q
end
/-! over plain data -/
def enumDk (k : Int) (ds : List D) : List D := ds.zipIdx.map fun p => D.tup [.int (k + (p.2 : Nat)), p.1]
theorem enumDk_zero (ds : List D) : enumDk 0 ds = enumD ds := by
  unfold enumDk enumD
  exact List.map_congr_left fun p _ => by rw [Int.zero_add]
def enumA (fs : Rho → R (List VD)) : Rho → R (List D) := fun ρ => (fs ρ).bind fun vs ρ1 => match vs with
  | [.d (.lst ds)] => .ok (enumD ds) ρ1
  | [.d (.tup ds)] => .ok (enumD ds) ρ1
  | [.sl i] => (match ρ1[i]? with | some (.m xs) => .ok (enumD xs) (ρ1.set i (.d (.lst xs))) | _ => .bad)
  | _ => .bad
def enumK (k : Int) (fs : Rho → R (List VD)) : Rho → R (List D) := fun ρ => (fs ρ).bind fun vs ρ1 => match vs with
  | [.d (.lst ds), .d (.int j)] => if j = k then .ok (enumDk k ds) ρ1 else .bad
  | [.d (.tup ds), .d (.int j)] => if j = k then .ok (enumDk k ds) ρ1 else .bad
  | _ => .bad
section
variable {K : PySem.W.Frag} {T : Tb} {S : Hp}
theorem wk_enumG {Sq : Hp → Prop} {ds : List D} {vs : List V} {k : Int} (hs : ∀ S1 H1, Same S S1 → SameT T S1 H1 → Sq H1) (r : Rps K T S ds vs) : Wk K T S (enumDk k ds) (Itn2 Sq vs k) := fun S1 H1 e1 e2 i => by
  unfold enumDk
  refine ⟨fun d hd => ?_, fun hl => ?_⟩
  · rw [List.getElem?_map] at hd
    cases q : ds.zipIdx[i]? with
    | none => rw [q] at hd; cases hd
    | some p =>
      rw [q] at hd
      rw [List.getElem?_zipIdx] at q
      cases q2 : ds[i]? with
      | none => rw [q2] at q; cases q
      | some d0 =>
        rw [q2] at q
        have hp : (d0, 0 + i) = p := Option.some.inj q
        subst hp
        have hd' : D.tup [.int (k + ((0 + i : Nat) : Int)), d0] = d := Option.some.inj hd
        subst hd'
        obtain ⟨v, hv, rv⟩ := r.get q2
        refine ⟨⟨hs S1 H1 e1 e2, (List.getElem?_eq_some_iff.mp hv).1⟩, fun x H2 hy => ?_⟩
        obtain ⟨t, x0, rfl, ht, rfl, hx⟩ := hy
        rw [hv] at hx; cases hx
        have sn := same_new (o := .tup [.int (k + (i : Nat)), v]) (e2.free ht)
        refine ⟨upd S1 t (.tup [.int (k + (i : Nat)), v]), Ext.new e2 ht, t, [.int (k + (i : Nat)), v], rfl, SqT.of upd_same, _, _, rfl, ?_, _, _, rfl, Rp.mono sn _ _ (Rp.mono e1 _ _ rv), rfl⟩
        show V.int _ = V.int _
        rw [Nat.zero_add]
  · refine ⟨hs S1 H1 e1 e2, ?_⟩
    rw [hl, List.length_map, List.length_zipIdx, r.len]
end
section
variable {X : Cx} {T : Tb} {W : WX} {e e2 : Expr} {fs : Rho → R (List VD)} {p pos tpos : Pos} {elts : List Expr} {kk : Nat}
theorem seqG_of {K : PySem.W.Frag} {β : Bt} {G S1 H1 : Hp} {σ : L2.St} {ρ1 : Rho} {k : Int} {x : D} {ds : List D} {u : V} {Q : It → Hp → Prop} (o1 : Ok K T β G S1 σ ρ1 H1) (hx : Rp K T S1 x u) (hi : x.items? = some ds) (p1 : ∀ S' H' J, Same S1 S' → Ok K T β G S' σ ρ1 H' → Wk K T S' (enumDk k ds) J → Q J H') :
    ∃ a xs, u = .ref a ∧ ((SqL K H1 a xs ∧ Q (Itn2 (fun H => SqL K H a xs) xs k) H1) ∨ (SqT K H1 a xs ∧ Q (Itn2 (fun H => SqT K H a xs) xs k) H1)) := by
  cases x with
  | lst ys =>
    cases hi
    obtain ⟨a, vs, rfl, q, r⟩ := hx
    exact ⟨a, vs, rfl, .inl ⟨SqL.of (o1.sh _ _ q), p1 S1 H1 _ (Same.refl _) o1 (wk_enumG (fun S2 H2 a1 a2 => SqL.of (a2 _ _ (a1 _ _ q))) r)⟩⟩
  | tup ys =>
    cases hi
    obtain ⟨a, vs, rfl, q, r⟩ := hx
    exact ⟨a, vs, rfl, .inr ⟨same_tup o1.sh q, p1 S1 H1 _ (Same.refl _) o1 (wk_enumG (fun S2 H2 a1 a2 => same_tup a2 (same_tup a1 q)) r)⟩⟩
  | _ => cases hi
theorem xi_enumA (hm : X.mg "enumerate" = none) (ha : XA X T W [e] fs) (hg : L2.Gl X "enumerate" := by rfl) (hs : starEach [e] X.env = [(false, eval e X.env)] := by rfl) : XI X T W (.Tuple elts kk tpos) (.Call (.Name "enumerate" p) [e] [] pos) (enumA fs) := (pi_enumG hg hm ha hs).impQ fun σ H Q h => by
  obtain ⟨β, G, S, ρ, o, p⟩ := h
  refine ⟨β, G, S, ρ, o, PostI.thn (Rl := RpVs X.K T σ) p fun S1 H1 ρ1 v u e1 o1 h1 p1 => ?_⟩
  have go : ∀ {x : D} {ds : List D}, x.items? = some ds → RpVs X.K T σ S1 [.d x] u → PostI X.K T W β G S1 σ (.ok (enumD ds) ρ1) Q → ∃ a xs, u = [.ref a] ∧ ((SqL X.K H1 a xs ∧ Q (Itn2 (fun H => SqL X.K H a xs) xs 0) H1) ∨ (SqT X.K H1 a xs ∧ Q (Itn2 (fun H => SqT X.K H a xs) xs 0) H1)) := fun {x ds} hi h1 p1 => by
    obtain ⟨z, rfl, hz⟩ := h1.one
    obtain ⟨a, xs, rfl, q⟩ := seqG_of (k := 0) (Q := Q) o1 hz hi fun S' H' J e o wk => p1 S' H' J e o (by rw [enumDk_zero] at wk; exact wk)
    exact ⟨a, xs, rfl, q⟩
  split at p1
  · exact go rfl h1 p1
  · exact go rfl h1 p1
  · rename_i i
    split at p1
    · rename_i xs q
      obtain ⟨z, rfl, hz⟩ := h1.one
      obtain ⟨a, vs, e2, e3, e4, r, o2⟩ := o1.frzSlot q
      have : σ[i]? = some (some z) := hz
      rw [e2] at this; cases this
      refine ⟨a, vs, rfl, .inl ⟨SqL.of e3, p1 _ H1 _ (same_new e4) o2 ?_⟩⟩
      rw [← enumDk_zero]
      exact wk_enumG (fun S2 H2 a1 a2 => SqL.of (a2 _ _ (a1 _ _ upd_same))) (Rps.mono (same_new e4) _ _ r)
    · exact p1.elim
  · exact p1.elim
end
end Lq
namespace Lq
open PySem PySem.Spec PyProof.Rows L2 PySem.W
/-! ### which class is under which: by the text's own facts -/
theorem kit_ref2 {K : Frag} {t : Value} {C : Addr} {b : Bool} (hd : hasDictIn K C = true) (ht : typeIn K (.ref C) = some (.type "type")) (hs : subIn K (.ref C) (.ref C) = some true) (h : subIn K t (.ref C) = some b) : kitOne K t (.ref C) = some b := by
  unfold kitOne
  by_cases e : (t == .ref C) = true
  · rw [if_pos e]
    have e' : t = .ref C := eq_of_beq e
    rw [e', hs] at h
    exact h
  · rw [if_neg e]
    obtain ⟨cd, hc, _⟩ := any_some hd
    have e2 : ((clsIn K C).isSome && typeIn K (.ref C) == some (.type "type")) = true := by rw [hc, ht] <;> rfl
    show (if ((clsIn K C).isSome && typeIn K (.ref C) == some (.type "type")) = true then subIn K t (.ref C) else none) = some b
    rw [if_pos e2]
    exact h
end Lq
namespace Lq
open PySem
/-! ### comprehensions, loops, tests: plain laws -/
theorem wipeR_get_out {ρ : Rho} : ∀ {vs : List Nat} {v : Nat}, v ∉ vs → (wipeR ρ vs)[v]? = ρ[v]?
  | [], _, _ => rfl
  | w :: vs, v, h => by
    unfold wipeR
    simp only [List.mem_cons, not_or] at h
    rw [List.getElem?_set_ne (Ne.symm h.1)]
    exact wipeR_get_out h.2
theorem back_wipe {ρ : Rho} : ∀ vs : List Nat, backR ρ (wipeR ρ vs) vs = ρ := fun vs => by
  apply List.ext_getElem?
  intro i
  by_cases hi : i ∈ vs
  · by_cases hl : i < ρ.length
    · rw [backR_in hi (by rw [wipeR_len]; exact hl), List.getD_eq_getElem?_getD, List.getElem?_eq_getElem hl]; rfl
    · rw [List.getElem?_eq_none (by rw [backR_len, wipeR_len]; omega), List.getElem?_eq_none (by omega)]
  · rw [backR_out hi, wipeR_get_out hi]
/-- .. that changes nothing: what passes the test, mapped -/
theorem compF_fm {vs : List Nat} {fi : Rho → R (List D)} {gd : D → Rho → Option Rho} {ft : Rho → R Bool} {fe : Rho → R VD} {ρ ρ0 : Rho} {ds : List D} (p : D → Bool) (g : D → D) (hi : fi ρ = .ok ds ρ0) (hp : (vs.all fun v => plainC (ρ0.getD v .no)) = true) (hl : ds.length ≤ 1000000)
    (h : ∀ d ∈ ds, ∃ ρ1, gd d (wipeR ρ0 vs) = some ρ1 ∧ ft ρ1 = .ok (p d) ρ1 ∧ (p d = true → fe ρ1 = .ok (.d (g d)) ρ1) ∧ wipeR ρ1 vs = wipeR ρ0 vs) : compF vs fi gd ft fe ρ = .ok ((ds.filter p).map g) ρ0 := by
  have e := comp_all (vs := vs) (gd := gd) (ft := ft) (fe := fe) (g := fun d => if p d then [g d] else []) (ρ := wipeR ρ0 vs) ds [] (fun d hd => ⟨by split <;> simp, fun acc ha => by
    obtain ⟨ρ1, e1, e2, e3, e4⟩ := h d hd
    refine ⟨ρ1, ?_, e4⟩
    cases hpd : p d with
    | true => simp only [Lq.compTurn, e1, e2, hpd, R.bind, e3 hpd, if_true, fits_of ha]
    | false => simp [Lq.compTurn, e1, e2, hpd, R.bind]⟩) (by rw [List.length_nil]; omega)
  rw [List.nil_append, flatMap_if] at e
  simp only [Lq.compF, hi, R.bind, hp, e, if_true, back_wipe]
theorem compF_m {vs : List Nat} {fi : Rho → R (List D)} {gd : D → Rho → Option Rho} {fe : Rho → R VD} {ρ ρ0 : Rho} {ds : List D} (g : D → D) (hi : fi ρ = .ok ds ρ0) (hp : (vs.all fun v => plainC (ρ0.getD v .no)) = true) (hl : ds.length ≤ 1000000)
    (h : ∀ d ∈ ds, ∃ ρ1, gd d (wipeR ρ0 vs) = some ρ1 ∧ fe ρ1 = .ok (.d (g d)) ρ1 ∧ wipeR ρ1 vs = wipeR ρ0 vs) : compF vs fi gd yesT fe ρ = .ok (ds.map g) ρ0 := by
  have e := compF_fm (vs := vs) (fi := fi) (gd := gd) (ft := yesT) (fe := fe) (ρ := ρ) (ρ0 := ρ0) (ds := ds) (fun _ => true) g hi hp hl fun d hd => by
    obtain ⟨ρ1, h1, h2, h3⟩ := h d hd
    exact ⟨ρ1, h1, rfl, fun _ => h2, h3⟩
  rw [e, List.filter_eq_self.2 fun _ _ => rfl]
/-! ### names -/
theorem flat_strs (ws : List Str) : ((ws.map D.str).all D.flat) = true := List.all_eq_true.2 fun d hd => by
  obtain ⟨w, _, rfl⟩ := List.mem_map.1 hd
  rfl
theorem anyEq_strs (w : Str) (ws : List Str) : anyEq (.str w) (ws.map D.str) = decide (w ∈ ws) := by
  unfold anyEq
  rw [List.any_map]
  by_cases h : w ∈ ws
  · rw [decide_eq_true h, List.any_eq_true]
    exact ⟨w, h, by simp [deq]⟩
  · rw [decide_eq_false h, List.any_eq_false]
    intro x hx
    simp [deq]
    exact fun e => h (e ▸ hx)
theorem nin_strs {x : D} {ws : List Str} (hx : x.items? = some (ws.map D.str)) (w : Str) : ninD (.str w) x = some (.bl (!decide (w ∈ ws))) := by
  cases x with
  | lst ys => cases hx; simp [ninD, D.flat, flat_strs, anyEq_strs]
  | tup ys => cases hx; simp [ninD, D.flat, flat_strs, anyEq_strs]
  | _ => cases hx
theorem items_of {x : D} {xs : List D} (hx : x.items? = some xs) : itemsOf x = some xs := by
  cases x with
  | lst ys => cases hx; rfl
  | tup ys => cases hx; rfl
  | _ => cases hx
theorem items_seq {x : D} {xs : List D} {i : Nat} {ρ : Rho} (hx : x.items? = some xs) (h : ρ[i]? = some (.d x)) : seqI (nameE i) ρ = .ok xs ρ := by
  simp only [seqI, nameE, h, R.bind, items_of hx]
theorem items_enum {x : D} {xs : List D} {i : Nat} {ρ : Rho} (hx : x.items? = some xs) (h : ρ[i]? = some (.d x)) : enumA (consA (nameE i) nilA) ρ = .ok (enumD xs) ρ := by
  cases x with
  | lst ys => cases hx; simp [enumA, consA, nilA, nameE, h, R.bind]
  | tup ys => cases hx; simp [enumA, consA, nilA, nameE, h, R.bind]
  | _ => cases hx
theorem LtS.trans {x y z : Str} (h1 : LtS x y) (h2 : LtS y z) : LtS x z := List.lt_trans h1 h2
instance (x y : Str) : Decidable (LtS x y) := inferInstanceAs (Decidable (x.cps.toList < y.cps.toList))
end Lq
namespace Lq
open PySem PySem.Spec PyProof.Rows L2
/-! ### an instance with slots is no code object -/
theorem relV_ex : ∀ v : V, ∃ u, RelV v u
  | .non => ⟨_, rfl⟩
  | .bl _ => ⟨_, rfl⟩
  | .int _ => ⟨_, 0, rfl⟩
  | .str _ => ⟨_, 0, rfl⟩
  | .byt _ => ⟨_, 0, rfl⟩
  | .flt _ => ⟨_, 0, rfl⟩
  | .ref _ => ⟨_, rfl⟩
  | .ty _ => ⟨_, rfl⟩
theorem slR_ex : ∀ vs : List (Option V), ∃ us : List (Option Value), ∀ (i : Nat) (v : V), vs[i]? = some (some v) → ∃ u, us[i]? = some (some u) ∧ RelV v u
  | [] => ⟨[], fun i v h => by cases i <;> cases h⟩
  | none :: vs => by
    obtain ⟨us, h⟩ := slR_ex vs
    exact ⟨none :: us, fun i v q => match i, q with
      | i + 1, q => h i v q⟩
  | some x :: vs => by
    obtain ⟨us, h⟩ := slR_ex vs
    obtain ⟨u, hu⟩ := relV_ex x
    exact ⟨some u :: us, fun i v q => match i, q with
      | 0, q => by cases q; exact ⟨u, rfl, hu⟩
      | i + 1, q => h i v q⟩
theorem slO_code {a c C dx : Addr} {vs : List (Option V)} {q : Str} : SlX.SlO a C dx vs ≠ LamX.CodeO c q := fun z => by
  obtain ⟨us, hu⟩ := slR_ex vs
  unfold SlX.SlO LamX.CodeO at z
  injection z with z
  have ob : ({ objs := Array.replicate (a + c + 1) { PySem.W.instObj C dx with slots := us.toArray } } : Heap).get? a = some { PySem.W.instObj C dx with slots := us.toArray } := by
    show (match (Array.replicate (a + c + 1) { PySem.W.instObj C dx with slots := us.toArray })[a]? with | some ⟨_, _, .freed, _⟩ => none | o => o) = _
    rw [Array.getElem?_replicate, if_pos (by omega)]
  have oc : ({ objs := Array.replicate (a + c + 1) { PySem.W.instObj C dx with slots := us.toArray } } : Heap).get? c = some { PySem.W.instObj C dx with slots := us.toArray } := by
    show (match (Array.replicate (a + c + 1) { PySem.W.instObj C dx with slots := us.toArray })[c]? with | some ⟨_, _, .freed, _⟩ => none | o => o) = _
    rw [Array.getElem?_replicate, if_pos (by omega)]
  have w := congrFun z ({ objs := Array.replicate (a + c + 1) { PySem.W.instObj C dx with slots := us.toArray } } : Heap)
  have l : ∃ sl : Array (Option Value), ({ objs := Array.replicate (a + c + 1) { PySem.W.instObj C dx with slots := us.toArray } } : Heap).get? a = some { PySem.W.instObj C dx with slots := sl } ∧ SlX.SlR vs sl := ⟨us.toArray, ob, fun i v h => by
    obtain ⟨u, e, r⟩ := hu i v h
    exact ⟨u, by simpa using e, r⟩⟩
  rw [w] at l
  obtain ⟨o2, vs2, t2, e1, e2, _⟩ := l
  rw [oc] at e1
  cases e1
  cases e2
/-- the slots are set -/
theorem keep_sl {H : Hp} {a C dx : Addr} {vs vs' : List (Option V)} {u : HO} (ha : H a = some (.ins C dx []) ∨ H a = some (SlX.SlO a C dx vs)) (hd : H dx = some u) (hne : dx ≠ a) (n : NoTb u := by exact fun _ z => nomatch z) (m : ∀ φ, u ≠ .ext φ := by exact fun _ z => nomatch z) : Keep H (SlX.slH H a C dx vs') := by
  have h1 : Keep H (upd H dx (.xd [])) := Keep.upd hd n m
  refine h1.trans ⟨fun b ps q => ?_, fun c r q => ?_⟩
  · have hb : b ≠ a := fun z => by
      subst z
      rw [upd_ne (Ne.symm hne)] at q
      rcases ha with e | e <;> rw [e] at q <;> cases q
    show upd (upd H dx (.xd [])) a _ b = _
    rw [upd_ne hb]; exact q
  · have hb : c ≠ a := fun z => by
      subst z
      rw [upd_ne (Ne.symm hne)] at q
      rcases ha with e | e
      · rw [e] at q; cases q
      · rw [e] at q; exact slO_code (Option.some.inj q)
    show upd (upd H dx (.xd [])) a _ c = _
    rw [upd_ne hb]; exact q
/-! ### an instance with slots is made -/
structure ExtI (T : Tb) (a dx : Addr) (S H S' H' : Hp) : Prop where
  s : Same S S'
  h : ∀ b o, b ≠ a → b ≠ dx → H b = some o → (n : NoTb o := by first | exact fun _ z => nomatch z | assumption) → H' b = some o
  ht : ∀ b ps, b ≠ a → b ≠ dx → H b = some (.tbl ps) → ∃ qs, H' b = some (.tbl qs)
  sh : SameT T S' H'
  fr : ∀ b o, b ≠ a → b ≠ dx → H b = some o → NoT o → S b = none → S' b = none
def GvI (K : PySem.W.Frag) (T : Tb) (t : Nat) (a dx : Addr) (S H : Hp) (r : Res) (Q : VK) (E : L2.XK) : Prop := match r with
  | .ok (.obj t' fs) => t' = t ∧ ∀ S' H' vs, ExtI T a dx S H S' H' → OB T S' t a vs → Rps K T S' fs vs → Q .non H'
  | .err x => ∀ S' H' c d, ExtI T a dx S H S' H' → XR K T S' x c d → E c d H'
  | _ => False
/-- what an __init__ is given: the new instance a, its dict dx, plain data -/
def spI (K : PySem.W.Frag) (T : Tb) (t n : Nat) (F : List D → Res) : Sp := fun vs H Q E => ∃ S a dx ws ds, vs = .ref a :: ws ∧ SameT T S H ∧ S a = none ∧ S dx = none ∧ dx ≠ a ∧ H a = some (.ins (T t) dx []) ∧ H dx = some (.own a) ∧ Rps K T S ds ws ∧ ds.length = n ∧ GvI K T t a dx S H (F ds) Q E
theorem spP_make {K : PySem.W.Frag} {T : Tb} {t n : Nat} {F : List D → Res} (hF : ∀ ds d, F ds = .ok d → ∃ fs, d = .obj t fs) {vs : List V} {H : Hp} {Q : VK} {E : L2.XK} (h : spP K T n F vs H Q E) (x dx : Addr) (hx : H x = none) (hd : H dx = none) (hne : dx ≠ x) :
    spI K T t n F (.ref x :: vs) (upd (upd H dx (.own x)) x (.ins (T t) dx [])) (fun v H2 => v = .non ∧ Q (.ref x) H2) E := by
  obtain ⟨S, ds, e, r, hl, p⟩ := h
  have ex : ∀ {S' H'}, ExtI T x dx S (upd (upd H dx (.own x)) x (.ins (T t) dx [])) S' H' → Ext T S H S' H' := fun {S' H'} z => {
    s := z.s
    h := ⟨fun b o q n => z.h b o (ne_of_none q hx) (ne_of_none q hd) (by rw [upd_ne (ne_of_none q hx), upd_ne (ne_of_none q hd)]; exact q) n, fun b ps q => z.ht b ps (ne_of_none q hx) (ne_of_none q hd) (by rw [upd_ne (ne_of_none q hx), upd_ne (ne_of_none q hd)]; exact q)⟩
    sh := z.sh
    fr := fun b o q n => z.fr b o (ne_of_none q hx) (ne_of_none q hd) (by rw [upd_ne (ne_of_none q hx), upd_ne (ne_of_none q hd)]; exact q) n }
  refine ⟨S, x, dx, vs, ds, rfl, (e.skip hd).skip (by rw [upd_ne (Ne.symm hne)]; exact hx), e.free hx, e.free hd, hne, upd_same, by rw [upd_ne hne, upd_same], r, hl, ?_⟩
  cases hF' : F ds with
  | ok d =>
    obtain ⟨fs, rfl⟩ := hF ds d hF'
    rw [hF'] at p
    exact ⟨rfl, fun S' H' ws z ob rf => ⟨rfl, p S' H' (.ref x) (ex z) ⟨x, ws, rfl, ob, rf⟩⟩⟩
  | err y =>
    rw [hF'] at p
    exact fun S' H' c d z xr => p S' H' c d (ex z) xr
  | bad => rw [hF'] at p; exact p.elim
section
variable {X : Cx} {C f : Addr} {k : Nat} {fd : FuncData} {ps : List Str} {sp : Sp} {E : L2.St → L2.XK} {x : Str} {p pos : Pos} {e : Expr} {es : List Expr} {t : TA}
def tMakeS (C : Addr) (sp : Sp) (E : L2.St → L2.XK) (t : TA) : TE := fun σ H Q => t σ H fun vs H1 => ∀ x dx, H1 x = none → H1 dx = none → dx ≠ x → sp (.ref x :: vs) (upd (upd H1 dx (.own x)) x (.ins C dx [])) (fun v H2 => v = .non ∧ Q (.ref x) H2) (E σ)
theorem made_run {pins : List (Addr × Obj)} {σ : L2.St} {H : Hp} {s : Shared} {Q : VK} {us : List Value} {vs : List V} (M : Mk X.K C f) (F : FnOk X.prog X.w X.K X.mg X.base (L2.CX X.prog X.w) k f fd ps sp) (hr : Room (k + 1) X.A) (hb : Binds X.K fd ps [])
    (hx : PassesAt (L2.CX X.prog X.w) X σ (E σ)) (I : Inv X pins σ H s) (r : Vals vs us) (h : ∀ x dx, H x = none → H dx = none → dx ≠ x → sp (.ref x :: vs) (upd (upd H dx (.own x)) x (.ins C dx [])) (fun v H2 => v = .non ∧ Q (.ref x) H2) (E σ)) :
    wpAny (model X.prog X.w) X.A (call (.ref C) us) (EP X pins σ Q) X.xe s := by
  have go := h (s.heap.objs.size + 1) s.heap.objs.size (I.hok.fresh (Nat.le_succ _)) (I.hok.fresh (Nat.le_refl _)) (Nat.ne_of_lt (Nat.lt_succ_self _))
  have J := Inv.made (C := C) I
  have r2 : Vals (V.ref (s.heap.objs.size + 1) :: vs) (Value.ref (s.heap.objs.size + 1) :: us) := .cons rfl r
  have bd := hb _ (Value.ref (s.heap.objs.size + 1) :: us) J.kIn (by rw [List.append_nil, ← r2.length]; exact F.len _ _ _ _ go)
  rw [List.append_nil] at bd
  refine wpAny_call (make_map (f := f) I.kIn M.makes M.init (beq_iff_eq.mp M.fn) (codeAny_mono (F.run _ X.stack _ _ ⟨Value.ref (s.heap.objs.size + 1) :: us, []⟩ _ _ _ (E σ) (hr.make C us []) (J.env0.make C us []) bd r2 go) fun w s' z => ?_))
  cases w with
  | error y => exact hx pins _ _ y s' J z
  | ok fl =>
    cases fl with
    | ret u =>
      obtain ⟨v, H', J3, rv, ev, q3⟩ := J.after z
      subst ev
      exact ⟨rv, ⟨V.ref (s.heap.objs.size + 1), H', J3, rfl, q3⟩⟩
    | _ => exact z.elim
theorem pe_makeS (M : Mk X.K C f) (F : FnOk X.prog X.w X.K X.mg X.base (L2.CX X.prog X.w) k f fd ps sp) (hr : Room (k + 1) X.A) (hg : L2.Gl X x) (hm : X.mg x = some (.ref C)) (hb : Binds X.K fd ps []) (hx : ∀ σ, PassesAt (L2.CX X.prog X.w) X σ (E σ))
    (ha : PA X (e :: es) t) (hdb : (x == ("__debug__" : Str)) = false := by decide) (he : starEach (e :: es) X.env = (false, eval e X.env) :: starEach es X.env := by rfl) (hpl : (backTo pos (starEach es X.env)).any (·.1) = false := by rfl) :
    PE X (.Call (.Name x p) (e :: es) [] pos) (tMakeS C sp E t) :=
  ⟨fun pins s σ H Q I h => wpAny_Call_Name_kw (ld_glob I hg hm (PySem.W.callWith_K (h₀ := X.base) I.ok.mod.kin M.kp (thn (ha.run pos pins s σ H _ I h) fun us s1 ⟨vs, H1, I1, r, q⟩ => ⟨I1.kIn, made_run M F hr hb (hx σ) I1 r q⟩) he hpl) hdb)⟩
theorem xe_make {T : Tb} {W : WX} {F : List D → Res} {fs : Rho → R (List VD)} {t n : Nat} (M : Mk X.K (T t) f) (Fk : FnOk X.prog X.w X.K X.mg X.base (L2.CX X.prog X.w) k f fd ps (spI X.K T t n F)) (hr : Room (k + 1) X.A) (hm : X.mg x = some (.ref (T t))) (hb : Binds X.K fd ps []) (tk : Takes X W)
    (hn : ∀ ds, F ds ≠ .bad → ds.length = n) (hF : ∀ ds d, F ds = .ok d → ∃ fs, d = .obj t fs) (ha : XA X T W (e :: es) fs) (hg : L2.Gl X x := by rfl) (hdb : (x == ("__debug__" : Str)) = false := by decide) (he : starEach (e :: es) X.env = (false, eval e X.env) :: starEach es X.env := by rfl) (hpl : (backTo pos (starEach es X.env)).any (·.1) = false := by rfl) :
    XE X T W (.Call (.Name x p) (e :: es) [] pos) (callE F fs) :=
  (pe_makeS (E := WE W) M Fk hr hg hm hb (fun σ => passAt tk σ) ha hdb he hpl).impQ fun σ H Q h => by
    have z := call_of hn h
    obtain ⟨β, G, S, ρ, o, q⟩ := z
    refine ⟨β, G, S, ρ, o, ?_⟩
    revert q
    cases fs ρ with
    | bad => exact fun q => q
    | err y ρ1 => exact fun q => q
    | ok vs ρ1 => exact fun q S' H' u e o' r a dx ha hd hne => spP_make hF (q S' H' u e o' r) a dx ha hd hne
end
/-! ### __init__: two statements, then self.f1 = e1, self.f0 = g(self.f1) -/
def isS (t : Nat) : Option Cell → Bool
  | some (.s u) => Nat.beq u t
  | _ => false
def initT (t n : Nat) (g1 g2 : Rho → O) (e1 : Rho → R VD) (F2 : List D → Res) (ds : List D) : Res := if ds.length = 1 then (match seqS g1 g2 (.s t :: startR n ds) with
  | .nx ρ => if isS t ρ[0]? then (match e1 ρ with
    | .ok (.d r) ρ1 => if isS t ρ1[0]? then (match F2 [r] with | .ok en => .ok (.obj t [en, r]) | _ => .bad) else .bad
    | .err x _ => .err x
    | _ => .bad) else .bad
  | .err x _ => .err x
  | _ => .bad) else .bad
theorem initT_len {t n : Nat} {g1 g2 : Rho → O} {e1 : Rho → R VD} {F2 : List D → Res} (ds : List D) (h : initT t n g1 g2 e1 F2 ds ≠ .bad) : ds.length = 1 := by
  unfold initT at h
  split at h
  · assumption
  · exact (h rfl).elim
theorem initT_obj {t n : Nat} {g1 g2 : Rho → O} {e1 : Rho → R VD} {F2 : List D → Res} (ds : List D) (d : D) (h : initT t n g1 g2 e1 F2 ds = .ok d) : ∃ fs, d = .obj t fs := by
  unfold initT at h
  repeat (first | (cases h; done) | split at h)
  all_goals first | (cases h; exact ⟨_, rfl⟩) | cases h
def besidesI (a dx : Addr) (S H : Hp) : Hp := fun c => if c = a ∨ c = dx then none else besides S H c
theorem bi_of {a dx c : Addr} {S H : Hp} {o : HO} (e : besidesI a dx S H c = some o) : (c ≠ a ∧ c ≠ dx) ∧ besides S H c = some o := by
  unfold besidesI at e
  split at e
  · cases e
  · rename_i h; exact ⟨not_or.1 h, e⟩
theorem bi_ne {a dx c : Addr} {S H : Hp} (h1 : c ≠ a) (h2 : c ≠ dx) : besidesI a dx S H c = besides S H c := by unfold besidesI; rw [if_neg (not_or.2 ⟨h1, h2⟩)]
section
variable {P : Program} {w : World} {K : PySem.W.Frag} {mg : Str → Option Value} {base : Heap} {T : Tb}
theorem self_at {β : Bt} {G S H : Hp} {σ : L2.St} {ρ : Rho} {a dx : Addr} {t : Nat} (hβ : β = .sf a dx) (o : Ok K T β G S σ ρ H) (h : isS t ρ[0]? = true) : σ[0]? = some (some (.ref a)) ∧ H a = some (.ins (T t) dx []) ∧ H dx = some (.own a) ∧ S dx = none ∧ S a = none := by
  cases q : ρ[0]? with
  | none => rw [q] at h; cases h
  | some c =>
    rw [q] at h
    cases c with
    | s u =>
      have : u = t := Nat.eq_of_beq_eq_true h
      subst this
      obtain ⟨a', dx', e1, e2, e3, e4, e5, e6, e7, e8⟩ := o.cel 0 _ q
      rw [hβ] at e2; cases e2
      exact ⟨e1, e3, e4, e5, e7⟩
    | _ => cases h
theorem fn_initT {qual f0 f1 : Str} {st : Stmt} {fI p0 p1 : Addr} {fd : FuncData} {N ps : List Str} {k m t : Nat} {g1 g2 : Rho → O} {e1 : Rho → R VD} {F2 : List D → Res} {dvs : List V} (F : FunD K "__init__" qual (defArgs st) (defBody st) (defScope st) dvs [] fI fd) (Sc : FnScope N ps (defScope st)) (hps : ps.length = 2) (hN : N.length = m + 1) (ht : isSl t = true)
    (sc : SlX.SCls K (T t)) (s0 : SlX.Slot1 K (T t) f0 p0 0) (s1 : SlX.Slot1 K (T t) f1 p1 1)
    (hbody : ∀ (cdv : Value) (A : Around) (outer : List PySem.Env) (s : Shared) (H : Hp) (E : L2.XK), Room k (A.deeper (envOfC qual (defScope st) s.heap.objs.size fI cdv)) →
      Takes (cxOf (L2.CX P w) P w K mg base N qual (defScope st) fI cdv A outer s H E) (fun c d _ H' => E c d H') →
      PassesOwn (model P w) (cxOf (L2.CX P w) P w K mg base N qual (defScope st) fI cdv A outer s H E).A (cxOf (L2.CX P w) P w K mg base N qual (defScope st) fI cdv A outer s H E).env (cxOf (L2.CX P w) P w K mg base N qual (defScope st) fI cdv A outer s H E).xe →
      PSs (cxOf (L2.CX P w) P w K mg base N qual (defScope st) fI cdv A outer s H E) (defBody st) (tSeq (rS K T (fun c d _ H' => E c d H') g1) (tSeq (rS K T (fun c d _ H' => E c d H') g2) (tSeq (SlX.sSl K (tVar 0) (rE K T (fun c d _ H' => E c d H') e1) f1) (SlX.sSl K (tVar 0) (tCallS (spP K T 1 F2) (WE fun c d _ H' => E c d H') (tCons (SlX.tSl K (tVar 0) f1) tNil)) f0))))) :
    FnOk P w K mg base (L2.CX P w) (k + 1) fI fd ps (spI K T t 1 (initT t m g1 g2 e1 F2)) := by
  refine F.ok Sc (fun vs H Q E h => ?_) (fun cdv A outer s H vs Q E hr h => ⟨_, hbody cdv A outer s H E hr (takes_of rfl rfl rfl rfl) (passes_of rfl), ?_⟩)
  · obtain ⟨S, a, dx, ws, ds, rfl, _, _, _, _, _, _, r, hl, _⟩ := h
    rw [List.length_cons, r.len, hl, hps]
  · obtain ⟨S, a, dx, ws, ds, rfl, e, ha, hd, hne, hHa, hHd, r, hl, p⟩ := h
    have O0 : Ok K T (.sf a dx) (besidesI a dx S H) S (L2.start N (V.ref a :: ws)) (.s t :: startR m ds) H := by
      refine ⟨e, besides_same.step fun c o q => .inr ⟨(bi_of q).2, rfl⟩, fun c o q _ => besides_apart (bi_of q).2, (fun c q => by cases q), (fun c q => by cases q), ?_, fun i c q => ?_, fun i j xs ys q => ?_⟩
      · unfold L2.start startR
        simp only [List.length_append, List.length_map, List.length_cons, List.length_replicate]
        rw [r.len, hN]
        omega
      · cases i with
        | zero =>
          simp at q; subst q
          exact ⟨a, dx, by simp [L2.start], rfl, hHa, hHd, hd, by unfold besidesI; rw [if_pos (.inr rfl)], ha, by unfold besidesI; rw [if_pos (.inl rfl)]⟩
        | succ i =>
          have z := start_cell (n := N.length - (ws.length + 1)) (k := m - ds.length) (i := i) (c := c) (H := H) (β := .sf a dx) (G := besidesI a dx S H) r (by simpa [startR] using q)
          have z2 : CellOk K T (.sf a dx) (besidesI a dx S H) S H (L2.start N (V.ref a :: ws))[i + 1]? c := by simpa [L2.start] using z
          exact z2
      · cases i with
        | zero => simp at q
        | succ i => exact (start_noM (i := i) (by simpa [startR] using q)).elim
    have extI : ∀ {S' H' : Hp} {σ' : L2.St} {ρ' : Rho}, Same S S' → Ok K T (.sf a dx) (besidesI a dx S H) S' σ' ρ' H' → ExtI T a dx S H S' H' := fun {S' H' σ' ρ'} e1 o => {
      s := e1
      h := fun b u h1 h2 q n => by
        cases z : S b with
        | none => exact o.gh.at_ b u (by rw [bi_ne h1 h2]; exact besides_of q z) n
        | some u' => have := e.eq z q n; subst this; exact o.sh.at_ b _ (e1.at_ b _ z n) n
      ht := fun b ps h1 h2 q => by
        cases z : S b with
        | none => exact o.gh.tb b ps (by rw [bi_ne h1 h2]; exact besides_of q z)
        | some u' =>
          by_cases nu : ∃ qs, u' = .tbl qs
          · obtain ⟨qs, rfl⟩ := nu
            obtain ⟨rs, w⟩ := e1.tb b qs z
            exact o.sh.tb b rs w
          · have := e.at_ b u' z fun qs w => nu ⟨qs, w⟩
            rw [q] at this; cases this; exact (nu ⟨ps, rfl⟩).elim
      sh := o.sh
      fr := fun b u h1 h2 q n z => o.gs b u (by rw [bi_ne h1 h2]; exact besides_of q z) n }
    unfold initT at p
    rw [if_pos hl] at p
    unfold seqS at p
    refine ⟨.sf a dx, besidesI a dx S H, S, _, O0, ?_⟩
    revert p
    cases g1 (.s t :: startR m ds) with
    | err y ρ1 => exact fun p S1 σ1 H1 c d e1 o1 xr => p S1 H1 c d (extI e1 o1) xr
    | bad => exact fun p => p
    | bk ρ1 => exact fun p => p.elim
    | ct ρ1 => exact fun p => p.elim
    | rt v ρ1 => exact fun p => p.elim
    | rf l ρ1 => exact fun p => p.elim
    | nx ρ1 =>
    intro p S1 σ1 H1 e1' o1
    refine ⟨.sf a dx, besidesI a dx S H, S1, ρ1, o1, ?_⟩
    dsimp only at p
    revert p
    cases g2 ρ1 with
    | err y ρ2 => exact fun p S2 σ2 H2 c d e2 o2 xr => p S2 H2 c d (extI (e1'.trans e2) o2) xr
    | bad => exact fun p => p
    | bk ρ2 => exact fun p => p.elim
    | ct ρ2 => exact fun p => p.elim
    | rt v ρ2 => exact fun p => p.elim
    | rf l ρ2 => exact fun p => p.elim
    | nx ρ2 =>
    intro p S2 σ2 H2 e2 o2
    dsimp only at p
    by_cases hs2 : isS t ρ2[0]? = true
    case neg => rw [if_neg hs2] at p; exact p.elim
    rw [if_pos hs2] at p
    refine ⟨.sf a dx, besidesI a dx S H, S2, ρ2, o2, ?_⟩
    revert p
    cases e1 ρ2 with
    | bad => exact fun p => p
    | err y ρ3 => exact fun p S3 H3 c d e3 o3 xr => p S3 H3 c d (extI ((e1'.trans e2).trans e3) o3) xr
    | ok v ρ3 =>
    intro p S3 H3 u e3 o3 rv
    cases v with
    | sl i => exact p.elim
    | d r =>
    dsimp only at p
    by_cases hs3 : isS t ρ3[0]? = true
    case neg => rw [if_neg hs3] at p; exact p.elim
    rw [if_pos hs3] at p
    obtain ⟨f1', f2', f3', f4', f5'⟩ := self_at rfl o3 hs3
    refine ⟨.ref a, f1', a, T t, dx, p1, [], 1, rfl, .inl ⟨f2', rfl⟩, sc, s1, ?_⟩
    have put1 : SlX.putS 1 u [] = [none, some u] := rfl
    rw [put1]
    have slt1 : SlX.Slt (SlX.slH H3 a (T t) dx [none, some u]) a (T t) dx [none, some u] := SlX.slH_slt hne
    refine ⟨.ref a, f1', a, T t, dx, p1, [none, some u], 1, u, rfl, slt1, sc, s1, rfl, ?_⟩
    have sameS : SameT T S3 (SlX.slH H3 a (T t) dx [none, some u]) := o3.sh.step (keep_sl (vs := []) (.inl f2') f3' hne) fun b o q => .inr ⟨q, SlX.slH_ne (ne_of_none q f5') (ne_of_none q f4')⟩
    cases hF2 : F2 [r] with
    | err y => rw [hF2] at p; exact p.elim
    | bad => rw [hF2] at p; exact p.elim
    | ok en =>
    rw [hF2] at p
    refine ⟨S3, [r], sameS, ⟨u, [], rfl, rv, rfl⟩, rfl, ?_⟩
    rw [hF2]
    intro S4 H4 v e4 rv4
    have aH4 : H4 a = some (SlX.SlO a (T t) dx [none, some u]) := e4.h _ _ upd_same
    have dH4 : H4 dx = some (.xd []) := e4.h _ _ (by unfold SlX.slH; rw [upd_ne hne, upd_same])
    have aS4 : S4 a = none := (e4.fr _ _ (show SlX.slH H3 a (T t) dx [none, some u] a = some _ from upd_same) (fun _ z => nomatch z) f5')
    have dS4 : S4 dx = none := (e4.fr _ _ (show SlX.slH H3 a (T t) dx [none, some u] dx = some (.xd []) by unfold SlX.slH; rw [upd_ne hne, upd_same]) (fun _ z => nomatch z) f4')
    refine ⟨.ref a, f1', a, T t, dx, p0, [none, some u], 0, rfl, .inr ⟨aH4, dH4⟩, sc, s0, ?_⟩
    have put0 : SlX.putS 0 v [none, some u] = [some v, some u] := rfl
    rw [put0]
    have sn : Same S4 (SlX.slH S4 a (T t) dx [some v, some u]) := .of fun b o q => by
      rw [SlX.slH_ne (ne_of_none q aS4) (ne_of_none q dS4)]; exact q
    have sAll : Same S S4 := ((e1'.trans e2).trans e3).trans e4.s
    have base := extI ((e1'.trans e2).trans e3) o3
    refine p.2 (SlX.slH S4 a (T t) dx [some v, some u]) _ [v, u] ⟨sAll.trans sn, fun b o h1 h2 q n => ?_, fun b ps h1 h2 q => ?_, e4.sh.step (keep_sl (.inr aH4) dH4 hne) fun b o q => ?_, fun b o h1 h2 q n z => ?_⟩ (.inr (.inl ⟨ht, dx, upd_same, by unfold SlX.slH; rw [upd_ne hne, upd_same]⟩)) ⟨v, [u], rfl, Rp.mono sn _ _ rv4, u, [], rfl, Rp.mono (e4.s.trans sn) _ _ rv, rfl⟩
    · rw [SlX.slH_ne h1 h2]
      exact e4.h.at_ b o (by rw [SlX.slH_ne h1 h2]; exact base.h b o h1 h2 q n) n
    · rw [SlX.slH_ne h1 h2]
      obtain ⟨qs, w⟩ := base.ht b ps h1 h2 q
      exact e4.h.tb b qs (by rw [SlX.slH_ne h1 h2]; exact w)
    · by_cases hba : b = a
      · subst hba; rw [show SlX.slH S4 b (T t) dx [some v, some u] b = some _ from upd_same] at q; rw [← q]; exact .inl upd_same
      · by_cases hbd : b = dx
        · subst hbd
          rw [show SlX.slH S4 a (T t) b [some v, some u] b = some (.xd []) by unfold SlX.slH; rw [upd_ne hne, upd_same]] at q
          rw [← q]; unfold SlX.slH; rw [upd_ne hne, upd_same]; exact .inl rfl
        · rw [SlX.slH_ne hba hbd] at q ⊢; exact .inr ⟨q, rfl⟩
    · rw [SlX.slH_ne h1 h2]
      have fz := base.fr b o h1 h2 q n z
      by_cases nu : ∃ qs, o = .tbl qs
      · obtain ⟨qs, rfl⟩ := nu
        obtain ⟨rs, w⟩ := base.ht b qs h1 h2 q
        exact e4.fr b (.tbl rs) (by rw [SlX.slH_ne h1 h2]; exact w) (fun _ z => nomatch z) fz
      · exact e4.fr b o (by rw [SlX.slH_ne h1 h2]; exact base.h b o h1 h2 q fun qs w => nu ⟨qs, w⟩) n fz
end
end Lq
namespace Lq
open PySem PySem.Spec PyProof.Rows L2
/-! ### instances with slots: fields, properties -/
def slotD (t i : Nat) : D → Option D
  | .obj t' fs => if t' = t then fs[i]? else none
  | _ => none
def propD (t : Nat) (F : List D → Res) : D → Option D
  | .obj t' fs => if t' = t then (match F [.obj t' fs] with | .ok d => some d | _ => none) else none
  | _ => none
theorem rps_get {K : PySem.W.Frag} {T : Tb} {S : Hp} : ∀ {fs : List D} {vs : List V} {i : Nat} {d : D}, Rps K T S fs vs → fs[i]? = some d → ∃ v, vs[i]? = some v ∧ Rp K T S d v
  | [], _, i, d, _, h => by simp at h
  | x :: fs, _, 0, d, ⟨v, vr, e, r, _⟩, h => by
    subst e; simp at h; subst h; exact ⟨v, rfl, r⟩
  | x :: fs, _, i + 1, d, ⟨v, vr, e, _, rr⟩, h => by
    subst e
    obtain ⟨u, hu, ru⟩ := rps_get (i := i) rr (by simpa using h)
    exact ⟨u, by simpa using hu, ru⟩
/-- an instance of the class t as it stands -/
theorem obj_at {K : PySem.W.Frag} {T : Tb} {S H : Hp} {t : Nat} {fs : List D} {x : V} (ht : isSl t = true) (e : SameT T S H) (hx : RpH K T S H (.obj t fs) x) : ∃ a dx vs, x = .ref a ∧ SlX.Slt H a (T t) dx (vs.map some) ∧ Rps K T S fs vs ∧ Rp K T S (.obj t fs) x := by
  rcases hx with ⟨a, vs, rfl, ob, rps⟩ | ⟨_, _, _, _, z, _⟩
  · rcases ob with ⟨z, _⟩ | ⟨z, dx, s1, s2⟩ | ⟨z, _⟩ | ⟨z, _⟩ | ⟨z, _⟩
    · rw [sl_ex ht] at z; cases z
    · exact ⟨a, dx, vs, rfl, .inr ⟨e _ _ s1, e _ _ s2⟩, rps, ⟨a, vs, rfl, .inr (.inl ⟨z, dx, s1, s2⟩), rps⟩⟩
    · rw [fn_sl z] at ht; cases ht
    · rw [dc_sl z] at ht; cases ht
    · rw [pt_sl z] at ht; cases ht
  · cases z
section
variable {X : Cx} {T : Tb} {W : WX} {e : Expr} {fa : Rho → R VD} {f : Str} {pos : Pos} {t : Nat}
theorem xe_slot {p : Addr} {i : Nat} (ht : isSl t = true) (sc : SlX.SCls X.K (T t)) (s1 : SlX.Slot1 X.K (T t) f p i) (he : XE X T W e fa) (hb : attributeBase e f X.env (eval e X.env) = eval e X.env := by rfl) : XE X T W (.Attribute e f pos) (op1E (slotD t i) fa) :=
  (SlX.pe_sl he hb).impQ fun σ H Q h => by
    refine tUn_of (r := fun x H1 Q => ∃ a C dx p vs i v, x = .ref a ∧ SlX.Slt H1 a C dx vs ∧ SlX.SCls X.K C ∧ SlX.Slot1 X.K C f p i ∧ vs[i]? = some (some v) ∧ Q v H1) ?_ h
    intro S H x dx d Q e hx hd g
    unfold slotD at hd
    split at hd
    · rename_i t' fs
      split at hd
      · rename_i hh
        subst hh
        obtain ⟨a, dx', vs, rfl, sl, rps, _⟩ := obj_at ht e hx
        obtain ⟨v, hv, rv⟩ := rps_get rps hd
        exact ⟨a, _, dx', p, _, i, v, rfl, sl, sc, s1, by rw [List.getElem?_map, hv]; rfl, g.now e rv⟩
      · cases hd
    · cases hd
theorem xe_prop {p gA : Addr} {F : List D → Res} {k : Nat} {fd : FuncData} (ht : isSl t = true) (sc : SlX.SCls X.K (T t)) (at_ : PySem.W.findIn X.K (.ref (T t)) f = some (some (.ref p))) (get : PySem.W.specialIn X.K (.ref p) "__get__" = some (some (.builtin "property.__get__")))
    (tk : PySem.W.takesIn X.K (.ref p) = some true) (rc : ∃ rest, PySem.W.recIn X.K p "property" = some (.ref gA :: rest)) (Fk : FnOk X.prog X.w X.K X.mg X.base (L2.CX X.prog X.w) k gA fd ["self"] (spP X.K T 1 F)) (hb : Binds X.K fd ["self"] []) (hr : Room (k + 1) X.A)
    (he : XE X T W e fa) (hbs : attributeBase e f X.env (eval e X.env) = eval e X.env := by rfl) : XE X T W (.Attribute e f pos) (op1E (propD t F) fa) :=
  (SlX.pe_propSl (E := fun _ _ _ => False) he sc at_ get tk rc (Fk.raw hb .nil) hr (fun _ _ _ _ z => cx_no z) hbs).impQ fun σ H Q h => by
    refine tUn_of (r := fun x H1 Q => ∃ a dx vs, x = .ref a ∧ SlX.Slt H1 a (T t) dx vs ∧ spP X.K T 1 F ([.ref a] ++ []) H1 Q fun _ _ _ => False) ?_ h
    intro S H x dx d Q e hx hd g
    unfold propD at hd
    split at hd
    · rename_i t' fs
      split at hd
      · rename_i hh
        subst hh
        obtain ⟨a, dx', vs, rfl, sl, _, rp⟩ := obj_at ht e hx
        split at hd
        · rename_i d' hF
          cases hd
          exact ⟨a, dx', _, rfl, sl, S, [.obj _ fs], e, ⟨_, [], rfl, rp, rfl⟩, rfl, by rw [hF]; exact g⟩
        · cases hd
      · cases hd
    · cases hd
end
end Lq
namespace Lq
open PySem PySem.Spec PyProof.Rows L2
/-! ### (*a, b) -/
def starA (fa : Rho → R VD) (fs : Rho → R (List VD)) : Rho → R (List VD) := fun ρ => (fa ρ).bind fun v ρ1 => match (res v ρ1).bind D.items? with
  | some xs => (fs ρ1).bind fun vs ρ2 => .ok (xs.map VD.d ++ vs) ρ2
  | none => .bad
theorem rpvs_app {K : PySem.W.Frag} {T : Tb} {σ : L2.St} {S : Hp} : ∀ {xs : List D} {us : List V} {vs : List VD} {ws : List V}, Rps K T S xs us → RpVs K T σ S vs ws → RpVs K T σ S (xs.map VD.d ++ vs) (us ++ ws)
  | [], _, vs, ws, h, h2 => by obtain rfl : _ = [] := h; exact h2
  | x :: xs, _, vs, ws, ⟨u, r, e, h, hs⟩, h2 => by subst e; exact ⟨u, r ++ ws, rfl, h, rpvs_app hs h2⟩
section
variable {X : Cx} {T : Tb} {W : WX} {e : Expr} {es : List Expr} {fa : Rho → R VD} {fs : Rho → R (List VD)} {p : Pos}
theorem xa_star (ha : XE X T W e fa) (hs : XA X T W es fs) (hst : starEach (.Starred e p :: es) X.env = (true, eval e X.env) :: starEach es X.env := by rfl) : XA X T W (.Starred e p :: es) (starA fa fs) := (StX.pa_star ha hs hst).impQ fun σ H Q h => by
  obtain ⟨β, G, S, ρ, o, p⟩ := h
  refine ⟨β, G, S, ρ, o, Post.thn (Rl := RpV X.K T σ) p fun S1 H1 ρ1 v u e1 o1 h1 p1 => ?_⟩
  split at p1
  · rename_i xs hx
    obtain ⟨d, hd, hi⟩ := Option.bind_eq_some_iff.1 hx
    obtain ⟨a, vs, rfl, hq, hr⟩ := items_sq o1.sh (o1.res h1 hd) hi
    refine ⟨a, vs, rfl, hq.symm, β, G, S1, ρ1, o1, Post.thn (Rl := RpVs X.K T σ) p1 fun S2 H2 ρ2 ws us e2 o2 h2 p2 => ?_⟩
    exact p2 S2 H2 _ (Same.refl _) o2 (rpvs_app (Rps.mono e2 _ _ hr) h2)
  · exact p1.elim
end
end Lq
namespace Lq
open PySem PySem.Spec PyProof.Rows L2
/-! ### C(), by the default -/
section
variable {X : Cx} {C f : Addr} {k : Nat} {fd : FuncData} {ps : List Str} {sp : Sp} {E : L2.St → L2.XK} {x : Str} {p pos : Pos}
theorem made_run0 {ds : List Value} {dvs : List V} {pins : List (Addr × Obj)} {σ : L2.St} {H : Hp} {s : Shared} {Q : VK} (M : Mk X.K C f) (F : FnOk X.prog X.w X.K X.mg X.base (L2.CX X.prog X.w) k f fd ps sp) (hr : Room (k + 1) X.A) (hb : Binds X.K fd ps ds) (hd : Vals dvs ds)
    (hx : PassesAt (L2.CX X.prog X.w) X σ (E σ)) (I : Inv X pins σ H s) (h : ∀ x dx, H x = none → H dx = none → dx ≠ x → sp (.ref x :: dvs) (upd (upd H dx (.own x)) x (.ins C dx [])) (fun v H2 => v = .non ∧ Q (.ref x) H2) (E σ)) :
    wpAny (model X.prog X.w) X.A (call (.ref C) []) (EP X pins σ Q) X.xe s := by
  have go := h (s.heap.objs.size + 1) s.heap.objs.size (I.hok.fresh (Nat.le_succ _)) (I.hok.fresh (Nat.le_refl _)) (Nat.ne_of_lt (Nat.lt_succ_self _))
  have J := Inv.made (C := C) I
  have r2 : Vals (V.ref (s.heap.objs.size + 1) :: dvs) (Value.ref (s.heap.objs.size + 1) :: ds) := .cons rfl hd
  have bd := hb _ [Value.ref (s.heap.objs.size + 1)] J.kIn (by rw [List.singleton_append, ← r2.length]; exact F.len _ _ _ _ go)
  rw [List.singleton_append] at bd
  refine wpAny_call (make_map (f := f) I.kIn M.makes M.init (beq_iff_eq.mp M.fn) (codeAny_mono (F.run _ X.stack _ _ ⟨[Value.ref (s.heap.objs.size + 1)], []⟩ _ _ _ (E σ) (hr.make C [] []) (J.env0.make C [] []) bd r2 go) fun w s' z => ?_))
  cases w with
  | error y => exact hx pins _ _ y s' J z
  | ok fl =>
    cases fl with
    | ret u =>
      obtain ⟨v, H', J3, rv, ev, q3⟩ := J.after z
      subst ev
      exact ⟨rv, ⟨V.ref (s.heap.objs.size + 1), H', J3, rfl, q3⟩⟩
    | _ => exact z.elim
def dfA (d : D) : Rho → R (List VD) := fun ρ => .ok [.d d] ρ
theorem xe_make0 {T : Tb} {W : WX} {F : List D → Res} {t n : Nat} {d0 : Addr} {d : D} (M : Mk X.K (T t) f) (Fk : FnOk X.prog X.w X.K X.mg X.base (L2.CX X.prog X.w) k f fd ps (spI X.K T t n F)) (hr : Room (k + 1) X.A) (hm : X.mg x = some (.ref (T t))) (hb : Binds X.K fd ps [.ref d0]) (hd0 : ∀ S, Rp X.K T S d (.ref d0)) (tk : Takes X W)
    (hn : ∀ ds, F ds ≠ .bad → ds.length = n) (hF : ∀ ds d, F ds = .ok d → ∃ fs, d = .obj t fs) (hg : L2.Gl X x := by rfl) (hdb : (x == ("__debug__" : Str)) = false := by decide) :
    XE X T W (.Call (.Name x p) [] [] pos) (callE F (dfA d)) := by
  refine ⟨fun pins s σ H Q I h => ?_⟩
  refine wpAny_Call_Name_kw (ld_glob I hg hm ?_ hdb)
  refine PySem.W.callWith_K0 I.kIn M.kp (made_run0 (E := WE W) (dvs := [.ref d0]) M Fk hr hb (.cons rfl .nil) (passAt tk σ) I fun a dx ha hd hne => ?_)
  obtain ⟨β, G, S, ρ, o, q⟩ := call_of hn h
  exact spP_make hF (q S H [.ref d0] (Same.refl _) o ⟨_, [], rfl, hd0 S, rfl⟩) a dx ha hd hne
end
/-! ### what of the text is said of a class with slots -/
structure PropF (K : PySem.W.Frag) (C : Addr) (f : Str) (p g : Addr) : Prop where
  at_ : PySem.W.findIn K (.ref C) f = some (some (.ref p))
  get : PySem.W.specialIn K (.ref p) "__get__" = some (some (.builtin "property.__get__"))
  tk : PySem.W.takesIn K (.ref p) = some true
  rc : ∃ rest, PySem.W.recIn K p "property" = some (.ref g :: rest)
/-- a def with one default () -/
structure FunU (K : PySem.W.Frag) (T : Tb) (x qual : Str) (st : Stmt) (d0 f : Addr) (fd : FuncData) : Prop where
  fn : FunD K x qual (defArgs st) (defBody st) (defScope st) [V.ref d0] [] f fd
  df : ∀ S, Rp K T S (.tup []) (.ref d0)
theorem funU_mk {K : PySem.W.Frag} {T : Tb} {x qual : Str} {st : Stmt} {f dT d0 : Addr} {oc : Value} {od : Option Addr} {kV doc pm : Value} {an : Option Addr} {cdv ct : Value} {osl : Array (Option Value)} {oT o0 : Option Addr} {nT n0 : Nat} {sT s0 : Array (Option Value)}
    (l : K.lookup f = some ⟨oc, od, .func (PySem.W.fnOf x qual (defArgs st) (defBody st) (defScope st) (.ref dT) kV doc pm an cdv ct), osl⟩) (c : PySem.W.codeIn K cdv qual = true) (k : PySem.W.keepIn K (.ref f) = true)
    (lT : K.lookup dT = some ⟨.type "tuple", oT, .seq #[.ref d0] nT, sT⟩) (l0 : K.lookup d0 = some ⟨.type "tuple", o0, .seq #[] n0, s0⟩) :
    FunU K T x qual st d0 f (PySem.W.fnOf x qual (defArgs st) (defBody st) (defScope st) (.ref dT) kV doc pm an cdv ct) where
  fn := { ex := ⟨_, _, _, _, _, _, _, _, _, _, rfl, l, c, .inr ⟨by simp, dT, _, [.ref d0], nT, rfl, lT, rfl, .cons rfl .nil⟩, .inl rfl⟩, kp := k }
  df := fun S => rp_kstrs (ss := []) l0 rfl rfl (by rw [sizeLine_eq]; show 0 ≤ _; decide) .nil S
end Lq
namespace Lq
open PySem PySem.Spec PyProof.Rows L2
/-! ### x += e, x -= e (ints); list.extend, list.remove -/
def augS (i : Nat) (f : Int → Int → Int) (fa : Rho → R VD) : Rho → O := fun ρ => match ρ[i]? with
  | some (.d (.int a)) => (fa ρ).thnO fun v ρ1 => match v with | .d (.int b) => .nx (ρ1.set i (.d (.int (f a b)))) | _ => .bad
  | _ => .bad
def extE (i : Nat) (fs : Rho → R (List VD)) : Rho → R VD := fun ρ => match ρ[i]? with
  | some (.m _) => (fs ρ).bind fun vs ρ1 => (match ρ1[i]?, vs with
    | some (.m xs), [.d (.lst ys)] => if fits (xs.length + ys.length) then .ok (.d .non) (ρ1.set i (.m (xs ++ ys))) else .bad
    | _, _ => .bad)
  | _ => .bad
def asStrs : List D → Option (List Str)
  | [] => some []
  | .str w :: r => (asStrs r).map (w :: ·)
  | _ => none
def remE (i : Nat) (fs : Rho → R (List VD)) : Rho → R VD := fun ρ => match ρ[i]? with
  | some (.m _) => (fs ρ).bind fun vs ρ1 => (match ρ1[i]?, vs with
    | some (.m xs), [.d (.str w)] => (match asStrs xs with | some ws => if w ∈ ws then .ok (.d .non) (ρ1.set i (.m ((ws.erase w).map D.str))) else .bad | none => .bad)
    | _, _ => .bad)
  | _ => .bad
end Lq
namespace Lq
open PySem PySem.Spec PyProof.Rows L2
/-! ### own __getitem__, __eq__, __add__ of a class with slots -/
def ixTE (t : Nat) (F : List D → Res) (fa fb : Rho → R VD) : Rho → R VD := fun ρ => (fa ρ).bind fun v ρ1 => (fb ρ1).bind fun w ρ2 => match res v ρ2, res w ρ2 with
  | some (.obj t' fs), some (.int i) => if t' = t then (match F [.obj t' fs, .int i] with | .ok d => .ok (.d d) ρ2 | .err x => .err x ρ2 | .bad => .bad) else .bad
  | some x, some y => (match atD x y with | some d => .ok (.d d) ρ2 | none => .bad)
  | _, _ => .bad
/-- what K says of a method -/
structure MethF (K : PySem.W.Frag) (C : Addr) (m : Str) (g : Addr) : Prop where
  at_ : PySem.W.findIn K (.ref C) m = some (some (.ref g))
  fn : PySem.W.isFn K (.ref g) = true
  fi : PySem.W.fnIn K g = true
section
variable {X : Cx} {T : Tb} {W : WX} {a b : Expr} {fa fb : Rho → R VD} {pos : Pos} {t : Nat}
theorem run_sub {pins : List (Addr × Obj)} {σ : L2.St} {H : Hp} {s : Shared} {A : Around} {Q : VK} {us : List Value} {ws : List V} {n : Nat} {g : Addr} {sp : Sp} {E : L2.XK} (F : FnR X.prog X.w X.K X.mg X.base (L2.CX X.prog X.w) n g sp) (hr : Room n A) (e0 : Env0 X.prog X.w X.K X.mg X.base A X.stack s H)
    (hx : PassesAt (L2.CX X.prog X.w) X σ E) (I : Inv X pins σ H s) (r : Vals ws us) (h : sp ws H Q E) :
    codeAny (model X.prog X.w) A (.call (.ref g) ⟨us, []⟩) (fun r s' => match r with | .ok (.ret v) => EP X pins σ Q v s' | .ok _ => False | .error e => X.xe e s') s := by
  refine codeAny_mono (F A X.stack s H us ws Q E hr e0 r h) fun r s' hq => ?_
  cases r with
  | error e => exact hx pins H s e s' I hq
  | ok fl =>
    cases fl with
    | ret u => exact I.after hq
    | next => exact False.elim hq
    | brk => exact False.elim hq
    | cont => exact False.elim hq
/-- == -/
def eqTD (t : Nat) (F : List D → Res) : D → D → Option D
  | .obj t1 fs, .obj t2 gs => if t1 = t ∧ t2 = t then (match F [.obj t1 fs, .obj t2 gs] with | .ok (.bl k) => some (.bl k) | _ => none) else none
  | x, y => eqD x y
theorem p_own {F : List D → Res} {K : PySem.W.Frag} (ht : isSl t = true) (hn : PySem.W.notFirst K (T t) (.ref (T t)) = true) {S H : Hp} {x y : V} {fs gs : List D} {d : D} {Q : VK} (e : SameT T S H) (hx : RpH K T S H (.obj t fs) x) (hy : RpH K T S H (.obj t gs) y) (hF : F [.obj t fs, .obj t gs] = .ok d) (g : Gv K T S H d Q) :
    SlX.rOwn K (T t) (fun vs H Q E => spP K T 2 F (vs ++ []) H Q E) (fun _ _ _ => False) x y H Q := by
  obtain ⟨a, dx, vs, rfl, sl, _, rp⟩ := obj_at ht e hx
  obtain ⟨b, dy, ws, rfl, sl', _, rp'⟩ := obj_at ht e hy
  exact ⟨a, dx, _, b, T t, dy, _, rfl, rfl, sl, sl', hn, S, [.obj t fs, .obj t gs], e, ⟨_, _, rfl, rp, _, [], rfl, rp', rfl⟩, rfl, by rw [hF]; exact g⟩
def rEqT (K : PySem.W.Frag) (T : Tb) (t : Nat) (F : List D → Res) : R2 := fun x y H Q => SlX.rOwn K (T t) (fun vs H Q E => spP K T 2 F (vs ++ []) H Q E) (fun _ _ _ => False) x y H Q ∨ rEq2 K x y H Q
theorem op_eqT {g : Addr} {F : List D → Res} {k : Nat} {fd : FuncData} {ps : List Str} (m : MethF X.K (T t) "__eq__" g) (Fk : FnOk X.prog X.w X.K X.mg X.base (L2.CX X.prog X.w) k g fd ps (spP X.K T 2 F)) (hb2 : Binds X.K fd ps []) (hr : Room k X.A) (hu : X.A.units + 64 < cLine) :
    OpR X (compareOp .Eq) (rEqT X.K T t F) :=
  (SlX.op_own (op := .Eq) (fun _ _ => rfl) m.at_ m.fn (Fk.raw hb2 .nil) hr (fun _ _ _ _ _ _ _ z => (cx_no z).elim)).or (op_eqA hu)
theorem p_eqT {K : PySem.W.Frag} {F : List D → Res} (ht : isSl t = true) (hn : PySem.W.notFirst K (T t) (.ref (T t)) = true) : Prim2 K T (rEqT K T t F) (eqTD t F) := fun S H x y dx dy d Q e hx hy h g => by
  unfold eqTD at h
  split at h
  · rename_i t1 fs t2 gs
    split at h
    · rename_i hh
      obtain ⟨rfl, rfl⟩ := hh
      split at h
      · rename_i k hF
        cases h
        exact .inl (p_own ht hn e hx hy hF g)
      · cases h
    · cases h
  · exact .inr (p_eq S H x y dx dy d Q e hx hy h g)
end
end Lq
namespace Lq
open PySem PySem.Spec PyProof.Rows L2
/-! ### sorted(xs), xs a list of tuples of texts -/
/-! .. over data -/
end Lq
namespace Lq
open PySem PySem.Spec PyProof.Rows L2
/-! ### tuple(text) -/
def signs (z : Str) : List V := z.cps.toList.map fun c => V.str ⟨#[c]⟩
theorem vals_signs {z : Str} {acc : Array Value} (h : ItemsOf (SignAt z) acc z.cps.size) : Vals (signs z) acc.toList := by
  have go : ∀ (l : List Nat) (us : List Value), l.length = us.length → (∀ (i : Nat) (c : Nat), l[i]? = some c → ∃ t, us[i]? = some (Value.str ⟨#[c]⟩ t)) → Vals (l.map fun c => V.str ⟨#[c]⟩) us := by
    intro l
    induction l with
    | nil => intro us hl _; cases us with | nil => exact .nil | cons _ _ => simp at hl
    | cons c l ih =>
      intro us hl h
      cases us with
      | nil => simp at hl
      | cons u us =>
        obtain ⟨t, ht⟩ := h 0 c rfl
        simp at ht
        subst ht
        exact .cons ⟨t, rfl⟩ (ih us (by simpa using hl) fun i c' hc => by simpa using h (i + 1) c' (by simpa using hc))
  refine go _ _ (by simp [h.1]) fun i c hc => ?_
  have hi : i < z.cps.size := by have := (List.getElem?_eq_some_iff.mp hc).1; simpa using this
  have hi2 : i < acc.size := by rw [h.1]; exact hi
  obtain ⟨c', u, h1, h2⟩ := h.2 i acc[i] (by simp [hi2])
  have : c' = c := by
    rw [Array.getElem?_toList] at hc
    rw [hc] at h1; exact (Option.some.inj h1).symm
  subst this
  exact ⟨u, by rw [Array.getElem?_toList]; simp [hi2, h2]⟩
def rTupA (K : PySem.W.Frag) : List V → Hp → VK → Prop := fun xs H Q => (∃ p ys, xs = [.ref p] ∧ ((SqL K H p ys ∧ ∀ l, H l = none → Q (.ref l) (upd H l (.tup ys))) ∨ (SqT K H p ys ∧ Q (.ref p) H))) ∨ (∃ z : Str, xs = [.str z] ∧ z.length ≤ sizeLine ∧ ∀ l, H l = none → Q (.ref l) (upd H l (.tup (signs z))))
theorem call_tupleA {X : Cx} (hc : X.calm = true) : CallR X (.type "tuple") (rTupA X.K) := by
  intro pins s σ H xs us Q I r h
  rcases h with h | ⟨z, rfl, hz, q⟩
  · exact call_tuple_of pins s σ H xs us Q I r h
  · obtain ⟨u, rfl, ru⟩ := vals1 r
    obtain ⟨t, rfl⟩ := ru
    refine call_tuple_str (I.ok.hd hc) z t (fun h' tk acc hk ha => ?_) hz
    have I1 : Inv X pins σ H { s with heap := h', toks := tk } := I.kept (t' := tk) hk
    have rv := vals_signs ha
    have I2 : Inv X pins σ (upd H h'.objs.size (.tup (signs z))) { s with heap := h'.push { cls := .type "tuple", data := .seq acc }, toks := tk } :=
      I1.laid (t' := tk) (fun b o e => Heap.get?_push_of_some _ e) (Nat.le_refl _) (show ObjOk X.prog X.w _ _ _ (.tup (signs z)) from ⟨by unfold signs; rw [List.length_map, Array.length_toList]; exact hz, acc.toList, rv, by simpa using IsTup.new h' acc⟩)
    exact ⟨.ref h'.objs.size, _, I2, rfl, q _ (I1.hok.fresh (Nat.le_refl _))⟩
def tupleTD : List D → Option D
  | [.str z] => if fits z.length then some (.tup (chars z)) else none
  | xs => tupleD xs
theorem chars_rps {K : PySem.W.Frag} {T : Tb} {S : Hp} (z : Str) : Rps K T S (chars z) (signs z) := by
  unfold chars signs
  have : ∀ l : List Nat, Rps K T S (l.map fun c => D.str ⟨#[c]⟩) (l.map fun c => V.str ⟨#[c]⟩) := fun l => by
    induction l with
    | nil => exact rfl
    | cons c l ih => exact ⟨_, _, rfl, rfl, ih⟩
  exact this _
theorem p_tupleT {K : PySem.W.Frag} {T : Tb} : PrimN K T (rTupA K) tupleTD := fun S H xs ds d Q e h hg g => by
  unfold tupleTD at hg
  split at hg
  · rename_i z
    split at hg
    · rename_i hf
      cases hg
      obtain ⟨u, rfl, hu⟩ := h.one
      obtain rfl := hu.str
      exact .inr ⟨z, rfl, fits_line hf, fun l hl => g.newT e (chars_rps z) l hl⟩
    · cases hg
  · exact .inl (p_tuple S H xs _ d Q e h hg g)
/-! ### x = y, y a list of its own slot: it is not changed any more -/
def mvS (i j : Nat) : Rho → O := fun ρ => match ρ[j]? with
  | some (.m xs) => .nx ((ρ.set j (.d (.lst xs))).set i (.d (.lst xs)))
  | _ => asgS i (nameE j) ρ
end Lq
namespace Lq
open PySem PySem.Spec PyProof.Rows L2
/-! ### C.m(e, ..), m a staticmethod of the class C -/
end Lq
namespace Lq
open PySem PySem.Spec PyProof.Rows L2
/-! ### own len(x), x + y; isinstance(x, C) -/
section
variable {X : Cx} {T : Tb} {W : WX} {t : Nat}
def rLenT (K : PySem.W.Frag) (T : Tb) (t : Nat) (F : List D → Res) : List V → Hp → VK → Prop := fun xs H Q => ∃ a dx vs, xs = [.ref a] ∧ SlX.Slt H a (T t) dx vs ∧ spP K T 1 F ([.ref a] ++ []) H (fun z H' => ∃ n : Nat, z = .int n ∧ n < 1000000000 ∧ Q (.int n) H') (fun _ _ _ => False)
theorem call_lenT {g : Addr} {F : List D → Res} {k : Nat} {fd : FuncData} {ps : List Str} (m : MethF X.K (T t) "__len__" g) (Fk : FnOk X.prog X.w X.K X.mg X.base (L2.CX X.prog X.w) k g fd ps (spP X.K T 1 F)) (hb : Binds X.K fd ps []) (hr : Room (k + 1) X.A) : CallR X (.builtin "len") (rLenT X.K T t F) := by
  intro pins s σ H xs us Q I r h
  obtain ⟨a, dx, vs, rfl, hsl, q⟩ := h
  obtain ⟨u, rfl, ru⟩ := vals1 r
  obtain rfl : u = Value.ref a := ru
  obtain ⟨sl, od, _, J, _⟩ := SlX.slt_inst I hsl
  refine Calls.call_function_entry PySem.kind_len PySem.plain_len PySem.entry_len (PySem.args_len1 _) ?_
  unfold Builtin.«len»
  refine wpAny_bind (m := oneArg "len" _) (wpAny_pure ?_)
  refine wpAny_bind (m := callSpecial? (.ref a) (PySem.Str.ofString "__len__")) (PySem.W.special_fn I.kIn J m.at_ (beq_iff_eq.mp m.fn) (wpAny_mono (wpAny_call (run_sub (us := [.ref a]) (ws := [.ref a]) (σ := σ) (Fk.raw hb .nil) hr.in1 I.env0.in1 (E := fun _ _ _ => False) (fun _ _ _ _ _ _ z => (cx_no z).elim) I (.cons rfl .nil) q)) (fun v s' z => ?_) fun _ _ z => z))
  obtain ⟨z', H', I', rz, n, ez, hn, qz⟩ := z
  subst ez
  obtain ⟨tk, rfl⟩ := (show ∃ tk, v = Value.int n tk from rz)
  refine wpAny_bind (wpAny_holding (wpAny_pure ?_))
  refine wpAny_bind (wpAny_letGo ?_)
  show wpAny _ _ (if ((n : Nat) : Int) < 0 then _ else _) _ _ _
  rw [if_neg (by omega)]
  show wpAny _ _ (if ((n : Nat) : Int) ≥ 2 ^ 63 then _ else _) _ _ _
  rw [if_neg (by omega)]
  exact wpAny_bind (wpAny_mkInt (wpAny_pure ⟨_, rfl, .int n, H', I'.tok _, ⟨_, rfl⟩, qz⟩))
def lenTD (t : Nat) (F : List D → Res) : List D → Option D
  | [.obj t' fs] => if t' = t then (match F [.obj t' fs] with | .ok (.int n) => if decide (0 ≤ n) && decide (n < 1000000000) then some (.int n) else none | _ => none) else none
  | xs => lenD xs
def rLenAT (K : PySem.W.Frag) (T : Tb) (t : Nat) (F : List D → Res) : List V → Hp → VK → Prop := fun xs H Q => rLenT K T t F xs H Q ∨ (∃ x n, xs = [x] ∧ LenV K x H n ∧ Q (.int n) H)
theorem call_lenAT {g : Addr} {F : List D → Res} {k : Nat} {fd : FuncData} {ps : List Str} (m : MethF X.K (T t) "__len__" g) (Fk : FnOk X.prog X.w X.K X.mg X.base (L2.CX X.prog X.w) k g fd ps (spP X.K T 1 F)) (hb : Binds X.K fd ps []) (hr : Room (k + 1) X.A) : CallR X (.builtin "len") (rLenAT X.K T t F) := (call_lenT m Fk hb hr).or call_len
theorem p_lenT {K : PySem.W.Frag} {F : List D → Res} (ht : isSl t = true) : PrimN K T (rLenAT K T t F) (lenTD t F) := fun S H xs ds d Q e h hg g => by
  unfold lenTD at hg
  split at hg
  · rename_i t' fs
    split at hg
    · rename_i hh
      subst hh
      split at hg
      · rename_i n hF
        split at hg
        · rename_i hc
          cases hg
          rw [Bool.and_eq_true] at hc
          have h0 := of_decide_eq_true hc.1
          have h1 := of_decide_eq_true hc.2
          obtain ⟨u, rfl, hu⟩ := h.one
          obtain ⟨a, dx, vs, rfl, sl, _, rp⟩ := obj_at ht e hu
          refine .inl ⟨a, dx, _, rfl, sl, S, [.obj _ fs], e, ⟨_, [], rfl, rp, rfl⟩, rfl, ?_⟩
          rw [hF]
          intro S' H' v e' rv
          obtain rfl : v = .int n := rv
          refine ⟨n.toNat, by rw [Int.toNat_of_nonneg h0], by omega, ?_⟩
          rw [Int.toNat_of_nonneg h0]
          exact g S' H' (.int n) e' rfl
        · cases hg
      · cases hg
    · cases hg
  · exact .inr (p_len S H xs _ d Q e h hg g)
/-- isinstance(x, C), x of the class C -/
def isTD (t : Nat) : D → Option D
  | .obj t' _ => if t' = t then some (.bl true) else none
  | _ => none
variable {e : Expr} {fa : Rho → R VD} {p p2 pos : Pos}
/-- x + y by the class's own __add__ -/
def rAddT (K : PySem.W.Frag) (T : Tb) (t : Nat) (F : List D → Res) : R2 := fun x y H Q => (∃ a dx vs b dy ws, x = .ref a ∧ y = .ref b ∧ SlX.Slt H a (T t) dx vs ∧ SlX.Slt H b (T t) dy ws ∧ spP K T 2 F ([x, y] ++ []) H Q (fun _ _ _ => False)) ∨ rAdd4 K x y H Q
theorem op_addT {g : Addr} {F : List D → Res} {k : Nat} {fd : FuncData} {ps : List Str} (m : MethF X.K (T t) "__add__" g) (hs : PySem.W.selfFirst X.K (T t) = true) (Fk : FnOk X.prog X.w X.K X.mg X.base (L2.CX X.prog X.w) k g fd ps (spP X.K T 2 F)) (hb : Binds X.K fd ps []) (hr : Room k X.A) : OpR X (binaryOp .Add) (rAddT X.K T t F) := by
  intro pins s σ H x y v u Q I rx ry h
  rcases h with ⟨a, dx, vs, b, dy, ws, rfl, rfl, h1, h2, q⟩ | h
  · cases (show v = Value.ref a from rx)
    cases (show u = Value.ref b from ry)
    obtain ⟨sl, od, _, J, _⟩ := SlX.slt_inst I h1
    obtain ⟨sl', od', _, J', _⟩ := SlX.slt_inst I h2
    obtain ⟨mm, hF⟩ := I.fr
    refine PySem.W.binop_K hF I.ok.mod.kin J J'.type hs m.at_ m.fn ?_
    refine wpAny_mono (wpAny_call (run_sub (us := [.ref a, .ref b]) (ws := [.ref a, .ref b]) (σ := σ) (Fk.raw hb .nil) hr I.env0 (E := fun _ _ _ => False) (fun _ _ _ _ _ _ z => (cx_no z).elim) I (.cons rfl (.cons rfl .nil)) q)) (fun w s' z => ?_) fun _ _ z => z
    obtain ⟨z', H', I', rz, qz⟩ := z
    exact SlX.cmpback rz ⟨z', H', I', rz, qz⟩
  · exact op_addA pins s σ H x y v u Q I rx ry h
def addTD (t : Nat) (F : List D → Res) : D → D → Option D
  | .obj t1 fs, .obj t2 gs => if t1 = t ∧ t2 = t then (match F [.obj t1 fs, .obj t2 gs] with | .ok d => some d | _ => none) else none
  | x, y => addD x y
theorem p_addT {K : PySem.W.Frag} {F : List D → Res} (ht : isSl t = true) : Prim2 K T (rAddT K T t F) (addTD t F) := fun S H x y dx dy d Q e hx hy h g => by
  unfold addTD at h
  split at h
  · rename_i t1 fs t2 gs
    split at h
    · rename_i hh
      obtain ⟨rfl, rfl⟩ := hh
      split at h
      · rename_i d' hF
        cases h
        obtain ⟨a, dx, vs, rfl, sl, _, rp⟩ := obj_at ht e hx
        obtain ⟨b, dy, ws, rfl, sl', _, rp'⟩ := obj_at ht e hy
        exact .inl ⟨a, dx, _, b, dy, _, rfl, rfl, sl, sl', S, [.obj _ fs, .obj _ gs], e, ⟨_, _, rfl, rp, _, [], rfl, rp', rfl⟩, rfl, by rw [hF]; exact g⟩
      · cases h
    · cases h
  · exact .inr (p_add S H x y dx dy d Q e hx hy h g)
end
end Lq
namespace Lq
open PySem
/-! ### mirrors evaluated step by step -/
section
variable {ρ ρ1 ρ2 ρ3 : Rho} {fa fb fo : Rho → R VD} {fs : Rho → R (List VD)} {ff fg : Rho → R (List D)} {ft fu : Rho → R Bool} {v w : VD} {vs ws : List VD} {x y d : D} {xs ys ds : List D} {a b : Bool} {i j : Nat}
theorem ev_name (h : ρ[i]? = some (.d x)) : nameE i ρ = .ok (.d x) ρ := by simp only [nameE, h]
theorem ev_nameM (h : ρ[i]? = some (.m xs)) : nameE i ρ = .ok (.sl i) ρ := by simp only [nameE, h]
theorem ev_nameB {ns : List Int} (h : ρ[i]? = some (.b ns)) : nameE i ρ = .ok (.sl i) ρ := by simp only [nameE, h]
theorem ev_const : constE d ρ = .ok (.d d) ρ := rfl
theorem ev_op1 {g : D → Option D} (h1 : fa ρ = .ok v ρ1) (r1 : res v ρ1 = some x) (hg : g x = some d) : op1E g fa ρ = .ok (.d d) ρ1 := by simp only [op1E, h1, R.bind, lift1, r1, hg]
theorem ev_op2 {g : D → D → Option D} (h1 : fa ρ = .ok v ρ1) (h2 : fb ρ1 = .ok w ρ2) (r1 : res v ρ2 = some x) (r2 : res w ρ2 = some y) (hg : g x y = some d) : op2E g fa fb ρ = .ok (.d d) ρ2 := by simp only [op2E, h1, h2, R.bind, lift2, r1, r2, hg]
theorem ev_opN {g : List D → Option D} (h1 : fs ρ = .ok vs ρ1) (r1 : resAll vs ρ1 = some xs) (hg : g xs = some d) : opNE g fs ρ = .ok (.d d) ρ1 := by simp only [opNE, h1, R.bind, liftN, r1, hg]
theorem ev_opNF {g : List D → Option (List D)} (h1 : fs ρ = .ok vs ρ1) (r1 : resAll vs ρ1 = some xs) (hg : g xs = some ds) : opNF g fs ρ = .ok ds ρ1 := by simp only [opNF, h1, R.bind, r1, hg]
theorem ev_op2F {g : D → D → Option (List D)} (h1 : fa ρ = .ok v ρ1) (h2 : fb ρ1 = .ok w ρ2) (r1 : res v ρ2 = some x) (r2 : res w ρ2 = some y) (hg : g x y = some ds) : op2F g fa fb ρ = .ok ds ρ2 := by simp only [op2F, h1, h2, R.bind, r1, r2, hg]
theorem ev_nilA : nilA ρ = .ok [] ρ := rfl
theorem ev_consA (h1 : fa ρ = .ok v ρ1) (h2 : fs ρ1 = .ok vs ρ2) : consA fa fs ρ = .ok (v :: vs) ρ2 := by simp only [consA, h1, h2, R.bind]
theorem ev_starA (h1 : fa ρ = .ok v ρ1) (r1 : res v ρ1 = some x) (hx : x.items? = some xs) (h2 : fs ρ1 = .ok vs ρ2) : starA fa fs ρ = .ok (xs.map VD.d ++ vs) ρ2 := by simp only [starA, h1, r1, hx, h2, R.bind, Option.bind]
theorem ev_dfA : dfA d ρ = .ok [.d d] ρ := rfl
theorem ev_permA {n : Nat} {pm : List Nat} (h1 : fs ρ = .ok vs ρ1) (hn : vs.length = n) : permA n pm fs ρ = .ok (permL pm vs) ρ1 := by simp only [permA, h1, R.bind, hn, if_true]
theorem ev_frz (h : ff ρ = .ok ds ρ1) : frzE ff ρ = .ok (.d (.lst ds)) ρ1 := by simp only [frzE, h, R.bind]
theorem ev_tup (h : fs ρ = .ok vs ρ1) (hd : datAll vs = some ds) (hf : ds.length ≤ 1000000) : tupE fs ρ = .ok (.d (.tup ds)) ρ1 := by simp only [tupE, h, R.bind, hd, fits, decide_eq_true hf, if_true]
theorem ev_lst (h : fs ρ = .ok vs ρ1) (hd : datAll vs = some ds) (hf : ds.length ≤ 1000000) : lstF fs ρ = .ok ds ρ1 := by simp only [lstF, h, R.bind, hd, fits, decide_eq_true hf, if_true]
theorem ev_ifF1 (h : ft ρ = .ok b ρ1) (hb : b = true) (h2 : ff ρ1 = .ok ds ρ2) : ifF ft ff fg ρ = .ok ds ρ2 := by simp only [ifF, h, R.bind, hb, if_true, h2]
theorem ev_ifF2 (h : ft ρ = .ok b ρ1) (hb : b = false) (h2 : fg ρ1 = .ok ds ρ2) : ifF ft ff fg ρ = .ok ds ρ2 := by simp [ifF, h, R.bind, hb, h2]
theorem ev_call {F : List D → Res} (h : fs ρ = .ok vs ρ1) (r : resAll vs ρ1 = some ds) (hF : F ds = .ok d) (hs : (slotted vs && !d.noL) = false) : callE F fs ρ = .ok (.d d) ρ1 := by simp [callE, h, R.bind, r, hF, hs]
theorem ev_callX {F : List D → Res} {e : Xn} (h : fs ρ = .ok vs ρ1) (r : resAll vs ρ1 = some ds) (hF : F ds = .err e) (hs : (slotted vs && !(noLs e.fs)) = false) : callE F fs ρ = .err e ρ1 := by simp [callE, h, R.bind, r, hF, hs]
theorem ev_callB {F : List Int → List D → Option (D × List Int)} {ns ns' : List Int} (h : fs ρ = .ok (.sl i :: ws) ρ1) (hb : ρ1[i]? = some (.b ns)) (hd : datAll ws = some ds) (hF : F ns ds = some (d, ns')) (ho : onlyB i ρ1 = true) (hn : ρ1.set i (.b ns') = ρ2) : callBE F fs ρ = .ok (.d d) ρ2 := by simp only [callBE, h, R.bind, hb, hd, ho, hF, if_true, hn]
theorem ev_app {xs0 : List D} (h0 : ρ[i]? = some (.m xs0)) (h : fs ρ = .ok [.d y] ρ1) (h1 : ρ1[i]? = some (.m xs)) (hf : xs.length + 1 ≤ 1000000) (hn : ρ1.set i (.m (xs ++ [y])) = ρ2) : appE i fs ρ = .ok (.d .non) ρ2 := by simp only [appE, h0, h, R.bind, h1, fits, decide_eq_true hf, if_true, hn]
theorem ev_ext {xs0 : List D} (h0 : ρ[i]? = some (.m xs0)) (h : fs ρ = .ok [.d (.lst ys)] ρ1) (h1 : ρ1[i]? = some (.m xs)) (hf : xs.length + ys.length ≤ 1000000) (hn : ρ1.set i (.m (xs ++ ys)) = ρ2) : extE i fs ρ = .ok (.d .non) ρ2 := by simp only [extE, h0, h, R.bind, h1, fits, decide_eq_true hf, if_true, hn]
theorem ev_pop {xs0 : List D} {k : Nat} (h0 : ρ[i]? = some (.m xs0)) (h : fs ρ = .ok [.d (.int k)] ρ1) (h1 : ρ1[i]? = some (.m xs)) (hk : k < 1000000) (hx : xs[k]? = some y) (hn : ρ1.set i (.m (xs.eraseIdx k)) = ρ2) : popE i fs ρ = .ok (.d y) ρ2 := by
  simp [popE, h0, h, R.bind, h1, hx, hn, show (k : Int) < 1000000 by omega]
theorem ev_rem {xs0 : List D} {wl : List Str} {z : Str} (h0 : ρ[i]? = some (.m xs0)) (h : fs ρ = .ok [.d (.str z)] ρ1) (h1 : ρ1[i]? = some (.m xs)) (hs : asStrs xs = some wl) (hz : z ∈ wl) (hn : ρ1.set i (.m ((wl.erase z).map D.str)) = ρ2) : remE i fs ρ = .ok (.d .non) ρ2 := by
  simp only [remE, h0, h, R.bind, h1, hs, hz, if_true, hn]
theorem ev_noPart : noPart ρ = .ok none ρ := rfl
theorem ev_aPart {k : Int} (h : fa ρ = .ok (.d (.int k)) ρ1) : aPart fa ρ = .ok (some k) ρ1 := by simp only [aPart, h, R.bind]
theorem ev_sl {fl fh : Rho → R (Option Int)} {l h : Option Int} (h1 : fa ρ = .ok v ρ1) (h2 : fl ρ1 = .ok l ρ2) (h3 : fh ρ2 = .ok h ρ3) (r : res v ρ3 = some x) (hc : cutD x l h = some d) : slE fa fl fh ρ = .ok (.d d) ρ3 := by simp only [slE, h1, h2, h3, R.bind, r, hc]
theorem ev_ixT {F : List D → Res} {t : Nat} {fl : List D} {k : Int} (h1 : fa ρ = .ok v ρ1) (h2 : fb ρ1 = .ok w ρ2) (r1 : res v ρ2 = some (.obj t fl)) (r2 : res w ρ2 = some (.int k)) (hF : F [.obj t fl, .int k] = .ok d) : ixTE t F fa fb ρ = .ok (.d d) ρ2 := by simp only [ixTE, h1, h2, R.bind, r1, r2, if_true, hF]
/-! tests -/
theorem ev_val (h : fa ρ = .ok (.d (.bl b)) ρ1) : valT fa ρ = .ok b ρ1 := by simp only [valT, h, R.bind]
theorem ev_notT (h : ft ρ = .ok b ρ1) : notT ft ρ = .ok (!b) ρ1 := by simp only [notT, h, R.bind]
theorem ev_and1 (h : ft ρ = .ok b ρ1) (hb : b = false) : andT ft fu ρ = .ok false ρ1 := by simp [andT, h, R.bind, hb]
theorem ev_and2 (h : ft ρ = .ok b ρ1) (hb : b = true) (h2 : fu ρ1 = .ok a ρ2) : andT ft fu ρ = .ok a ρ2 := by simp [andT, h, R.bind, hb, h2]
theorem ev_and (h : ft ρ = .ok b ρ1) (h2 : b = true → fu ρ1 = .ok a ρ1) : andT ft fu ρ = .ok (b && a) ρ1 := by cases b <;> simp [andT, h, R.bind, h2]
theorem ev_or1 (h : ft ρ = .ok b ρ1) (hb : b = true) : orT ft fu ρ = .ok true ρ1 := by simp [orT, h, R.bind, hb]
theorem ev_or2 (h : ft ρ = .ok b ρ1) (hb : b = false) (h2 : fu ρ1 = .ok a ρ2) : orT ft fu ρ = .ok a ρ2 := by simp [orT, h, R.bind, hb, h2]
theorem ev_or (h : ft ρ = .ok b ρ1) (h2 : b = false → fu ρ1 = .ok a ρ1) : orT ft fu ρ = .ok (b || a) ρ1 := by cases b <;> simp [orT, h, R.bind, h2]
theorem ev_andE (h : fa ρ = .ok (.d (.bl b)) ρ1) (h2 : b = true → fb ρ1 = .ok (.d (.bl a)) ρ1) : andE fa fb ρ = .ok (.d (.bl (b && a))) ρ1 := by cases b <;> simp [andE, h, R.bind, h2]
theorem ev_orE (h : fa ρ = .ok (.d (.bl b)) ρ1) (h2 : b = false → fb ρ1 = .ok (.d (.bl a)) ρ1) : orE fa fb ρ = .ok (.d (.bl (b || a))) ρ1 := by cases b <;> simp [orE, h, R.bind, h2]
theorem ev_notE (h : fa ρ = .ok (.d (.bl b)) ρ1) : notE fa ρ = .ok (.d (.bl (!b))) ρ1 := by simp only [notE, h, R.bind]
theorem ev_ifE1 (h : ft ρ = .ok b ρ1) (hb : b = true) (h2 : fa ρ1 = .ok v ρ2) : ifE ft fa fb ρ = .ok v ρ2 := by simp [ifE, h, R.bind, hb, h2]
theorem ev_ifE2 (h : ft ρ = .ok b ρ1) (hb : b = false) (h2 : fb ρ1 = .ok v ρ2) : ifE ft fa fb ρ = .ok v ρ2 := by simp [ifE, h, R.bind, hb, h2]
theorem ev_ifE (h : ft ρ = .ok b ρ1) (h1 : b = true → fa ρ1 = .ok (.d x) ρ1) (h2 : b = false → fb ρ1 = .ok (.d y) ρ1) : ifE ft fa fb ρ = .ok (.d (if b then x else y)) ρ1 := by cases b <;> simp [ifE, h, R.bind, h1, h2]
/-! statements -/
variable {g h : Rho → O} {o o1 o2 : O}
theorem ev_seq (h1 : g ρ = .nx ρ1) (h2 : h ρ1 = o) : seqS g h ρ = o := by simp only [seqS, h1, h2]
theorem ev_seqN (h1 : g ρ = .nx ρ1) (hn : ρ1 = ρ2) (h2 : h ρ2 = o) : seqS g h ρ = o := by simp only [seqS, h1, hn, h2]
theorem ev_seqR (h1 : g ρ = .rt v ρ1) : seqS g h ρ = .rt v ρ1 := by simp only [seqS, h1]
theorem ev_seqX {e : Xn} (h1 : g ρ = .err e ρ1) : seqS g h ρ = .err e ρ1 := by simp only [seqS, h1]
theorem ev_next : nextS ρ = .nx ρ := rfl
theorem ev_asg (h : fa ρ = .ok (.d x) ρ1) : asgS i fa ρ = .nx (ρ1.set i (.d x)) := by simp only [asgS, h, R.thnO]
theorem ev_asgX {e : Xn} (h : fa ρ = .err e ρ1) : asgS i fa ρ = .err e ρ1 := by simp only [asgS, h, R.thnO]
theorem ev_asgM (h : ff ρ = .ok ds ρ1) : asgM i ff ρ = .nx (ρ1.set i (.m ds)) := by simp only [asgM, h, R.thnO]
theorem ev_ret (h : fa ρ = .ok v ρ1) : retS fa ρ = .rt v ρ1 := by simp only [retS, h, R.thnO]
theorem ev_retF (h : ff ρ = .ok ds ρ1) : retF ff ρ = .rf ds ρ1 := by simp only [retF, h, R.thnO]
theorem ev_drop (h : fa ρ = .ok v ρ1) : dropS fa ρ = .nx ρ1 := by simp only [dropS, h, R.thnO]
theorem ev_ifS1 (h1 : ft ρ = .ok b ρ1) (hb : b = true) (h2 : g ρ1 = o) : ifS ft g h ρ = o := by simp [ifS, h1, R.thnO, hb, h2]
theorem ev_ifS2 (h1 : ft ρ = .ok b ρ1) (hb : b = false) (h2 : h ρ1 = o) : ifS ft g h ρ = o := by simp [ifS, h1, R.thnO, hb, h2]
theorem ev_put {k : Int} (h1 : fa ρ = .ok (.d y) ρ1) (hm : ρ1[i]? = some (.m ys)) (h2 : fb ρ1 = .ok (.d (.int k)) ρ2) (hx : ρ2[i]? = some (.m xs)) (hk : L2.ixN xs.length k = some j) : putItem i fa fb ρ = .nx (ρ2.set i (.m (xs.set j y))) := by
  simp only [putItem, h1, R.thnO, hm, isMB, if_true, h2, putS1, hx, hk]
theorem ev_aug {f : Int → Int → Int} {m n : Int} (h0 : ρ[i]? = some (.d (.int m))) (h : fa ρ = .ok (.d (.int n)) ρ1) : augS i f fa ρ = .nx (ρ1.set i (.d (.int (f m n)))) := by simp only [augS, h0, h, R.thnO]
theorem ev_raise {t : Nat} (h : fs ρ = .ok [.d d] ρ1) : raiseS t fs ρ = .err ⟨t, [d]⟩ ρ1 := by simp only [raiseS, h, R.thnO, datAll]
theorem ev_raise0 {t : Nat} : raise0S t ρ = .err ⟨t, [.tup []]⟩ ρ := rfl
theorem ev_tryX {hh : Xn → Rho → O} {e : Xn} (h1 : g ρ = .err e ρ1) (h2 : hh e ρ1 = o) : tryS g hh ρ = o := by simp only [tryS, h1, h2]
theorem ev_for {gd : D → Rho → Option Rho} (h1 : ff ρ = .ok ds ρ1) (h2 : loopS (turnS gd g) ds ρ1 = o) : forS ff gd g ρ = o := by simp only [forS, h1, R.thnO, h2]
theorem ev_turn {gd : D → Rho → Option Rho} (h1 : gd d ρ = some ρ1) (h2 : g ρ1 = o) : turnS gd g d ρ = o := by simp only [turnS, h1, h2]
/-! several at once -/
theorem ev_nilM : nilM ρ = .ok [] ρ := rfl
theorem ev_consMd {fm : Rho → R (List MV)} {ms : List MV} (h : fa ρ = .ok (.d x) ρ1) (h2 : fm ρ1 = .ok ms ρ2) : consMd fa fm ρ = .ok (.d x :: ms) ρ2 := by simp only [consMd, h, h2, R.bind]
theorem ev_consMf {fm : Rho → R (List MV)} {ms : List MV} (h : ff ρ = .ok ds ρ1) (h2 : fm ρ1 = .ok ms ρ2) : consMf' ff fm ρ = .ok (.f ds :: ms) ρ2 := by simp only [consMf', h, h2, R.bind, noErr]
theorem ev_par {is : List Nat} {fm : Rho → R (List MV)} {ms : List MV} (h : fm ρ = .ok ms ρ1) (hl : is.length = ms.length) : parS is fm ρ = .nx (setsR ρ1 is ms) := by simp only [parS, h, R.thnO, hl, if_true]
/-! where a loop goes -/
theorem ev_seqI (h : fa ρ = .ok (.d x) ρ1) (hx : itemsOf x = some ds) : seqI fa ρ = .ok ds ρ1 := by simp only [seqI, h, R.bind, hx]
theorem ev_rng1 {n : Nat} (h : fs ρ = .ok [.d (.int n)] ρ1) (hn : n ≤ 1000000) : rngI1 fs ρ = .ok (rng 0 n) ρ1 := by
  simp [rngI1, h, R.bind, okR_small (i := (n : Int)) (by omega) (by omega)]
/-! defs -/
theorem ev_runF {a n : Nat} {f : Rho → O} (ρ0 : Rho) (h : ∃ ρ, f ρ0 = .rt (.d x) ρ) (hl : ds.length = a := by rfl) (hs : startR n ds = ρ0 := by rfl) : runF a n f ds = .ok x := by obtain ⟨ρ, h⟩ := h; simp only [runF, hl, if_true, hs, h]
theorem ev_runB {a n : Nat} {f : Rho → O} {ns ns' : List Int} (ρ0 : Rho) (h : ∃ ρ, f ρ0 = .rt (.d x) ρ ∧ ρ[0]? = some (.b ns')) (hl : ds.length = a := by rfl) (hs : .b ns :: startR n ds = ρ0 := by rfl) : runB a n f ns ds = some (x, ns') := by obtain ⟨ρ, h, hb⟩ := h; simp only [runB, hl, if_true, hs, h, boxAt, hb]
theorem nd_t {p : Prop} [Decidable p] (h : ¬ p) : (!decide p) = true := by rw [decide_eq_false h]; rfl
theorem nd_f {p : Prop} [Decidable p] (h : p) : (!decide p) = false := by rw [decide_eq_true h]; rfl
theorem nb_t {q : Bool} (h : q = false) : (!q) = true := by rw [h]; rfl
theorem nb_f {q : Bool} (h : q = true) : (!q) = false := by rw [h]; rfl
/-! data -/
theorem dv_addL (h : xs.length + ys.length ≤ 1000000) : addD (.lst xs) (.lst ys) = some (.lst (xs ++ ys)) := by simp only [addD, fits, decide_eq_true h, if_true]
theorem dv_addT (h : xs.length + ys.length ≤ 1000000) : addD (.tup xs) (.tup ys) = some (.tup (xs ++ ys)) := by simp only [addD, fits, decide_eq_true h, if_true]
theorem dv_cat (h : xs.length + ys.length ≤ 1000000) : catF (.lst xs) (.lst ys) = some (xs ++ ys) := by simp only [catF, fits, decide_eq_true h, if_true]
theorem dv_eqI (m n : Int) : eqD (.int m) (.int n) = some (.bl (decide (m = n))) := by show some (D.bl (m == n)) = _; rfl
theorem dv_neI (m n : Int) : neD (.int m) (.int n) = some (.bl (!decide (m = n))) := by show some (D.bl (!(m == n))) = _; rfl
theorem dv_eqS (m n : Str) : eqD (.str m) (.str n) = some (.bl (decide (m = n))) := by show some (D.bl (m == n)) = _; rfl
theorem dv_neS (m n : Str) : neD (.str m) (.str n) = some (.bl (!decide (m = n))) := by show some (D.bl (!(m == n))) = _; rfl
theorem datAll_ds : ∀ xs : List D, datAll (xs.map VD.d) = some xs
  | [] => rfl
  | x :: xs => by rw [List.map_cons, datAll, datAll_ds xs]
theorem datAll_dsA : ∀ (xs : List D) (vs : List VD) (ys : List D), datAll vs = some ys → datAll (xs.map VD.d ++ vs) = some (xs ++ ys)
  | [], vs, ys, h => h
  | x :: xs, vs, ys, h => by rw [List.map_cons, List.cons_append, datAll, datAll_dsA xs vs ys h]; rfl
end
end Lq
namespace Lq
open PySem PySem.Spec PyProof.Rows L2
/-! ### list(range(..)) -/
def smallR (n : Nat) : Bool := decide (n ≤ 1000000)
def lrgF1 (fa : Rho → R VD) : Rho → R (List D) := fun ρ => (fa ρ).bind fun v ρ1 => match v with
  | .d (.int n) => if okR n && smallR n.toNat then .ok (rng 0 n.toNat) ρ1 else .bad
  | _ => .bad
def lrgF2 (fa fb : Rho → R VD) : Rho → R (List D) := fun ρ => (fa ρ).bind fun v ρ1 => match v with
  | .d (.int m) => (fb ρ1).bind fun w ρ2 => (match w with
    | .d (.int n) => if okR m && (okR n && smallR (n - m).toNat) then .ok (rng m (n - m).toNat) ρ2 else .bad
    | _ => .bad)
  | _ => .bad
section
variable {ρ ρ1 ρ2 : Rho} {fa fb : Rho → R VD}
theorem ev_lrg1 {n : Nat} (h : fa ρ = .ok (.d (.int n)) ρ1) (hn : n ≤ 1000000) : lrgF1 fa ρ = .ok (rng 0 n) ρ1 := by
  have : okR (n : Int) = true := okR_small (by omega) (by omega)
  simp [lrgF1, h, R.bind, this, smallR, hn]
theorem ev_lrg2 {m n : Int} (h : fa ρ = .ok (.d (.int m)) ρ1) (h2 : fb ρ1 = .ok (.d (.int n)) ρ2) (hm : okR m = true) (hn : okR n = true) (hs : (n - m).toNat ≤ 1000000) : lrgF2 fa fb ρ = .ok (rng m (n - m).toNat) ρ2 := by
  simp [lrgF2, h, h2, R.bind, hm, hn, smallR, hs]
end
open PySem.W in
/-- an own class by its own facts, with or without a dict -/
theorem kit_ref3 {K : PySem.W.Frag} {t : Value} {C : Addr} {b : Bool} (hd : isClsIn K C = true) (ht : typeIn K (.ref C) = some (.type "type")) (hs : subIn K (.ref C) (.ref C) = some true) (h : subIn K t (.ref C) = some b) : kitOne K t (.ref C) = some b := by
  unfold kitOne
  by_cases e : (t == .ref C) = true
  · rw [if_pos e]
    have e' : t = .ref C := eq_of_beq e
    rw [e', hs] at h
    exact h
  · rw [if_neg e]
    have e2 : ((clsIn K C).isSome && typeIn K (.ref C) == some (.type "type")) = true := by
      rw [show (clsIn K C).isSome = true from hd, ht]; rfl
    show (if ((clsIn K C).isSome && typeIn K (.ref C) == some (.type "type")) = true then subIn K t (.ref C) else none) = some b
    rw [if_pos e2]
    exact h
open PySem.W in
/-- a built-in class -/
theorem kit_ty {K : PySem.W.Frag} {C : Addr} {x : String} {b : Bool} (hx : kitMeta x = true) (h : subIn K (.ref C) (.type x) = some b) : kitOne K (.ref C) (.type x) = some b := by
  unfold kitOne
  rw [if_neg (by intro e; cases eq_of_beq e)]
  show (if kitMeta x = true then subIn K (.ref C) (.type x) else none) = some b
  rw [if_pos hx]
  exact h
end Lq
namespace Lq
open PySem PySem.Spec PyProof.Rows L2
/-! ### // by any positive divisor below 2 ^ 9000 -/
/-! ### * of great ints -/
end Lq
namespace Lq
open PySem PySem.Spec PyProof.Rows L2
/-! ### own errors as values: C(e), C(f = e), C() -/
/-! ### the error made is an object like others -/
section
variable {X : Cx} {p pos : Pos} {e : Expr} {es : List Expr}
/-- how f = v binds behind self -/
def KwS (K : PySem.W.Frag) (fd : FuncData) (f : Str) : Prop := ∀ (s : Shared) (a v : Value), K.In s.heap → BindsTo s fd ⟨[a], [(f, v)]⟩ [("self", a), (f, v)]
end
/-! ### over plain data -/
def mkE (t : Nat) (fs : Rho → R (List VD)) : Rho → R VD := fun ρ => (fs ρ).bind fun vs ρ1 => match datAll vs with
  | some [d] => .ok (.d (.obj t [d])) ρ1
  | _ => .bad
def mkE0 (t : Nat) : Rho → R VD := fun ρ => .ok (.d (.obj t [.tup []])) ρ
section
variable {ρ ρ1 : Rho} {fs : Rho → R (List VD)} {d : D}
theorem ev_mk {t : Nat} (h : fs ρ = .ok [.d d] ρ1) : mkE t fs ρ = .ok (.d (.obj t [d])) ρ1 := by simp only [mkE, h, R.bind, datAll]
theorem ev_mk0 {t : Nat} : mkE0 t ρ = .ok (.d (.obj t [.tup []])) ρ := rfl
end
end Lq
namespace Lq
open PySem PySem.Spec PyProof.Rows L2
/-! ### clauses of several classes: except (A, B, C) as n -/
section
variable {X : Cx} {pins : List (Addr × Obj)} {σ : L2.St} {H : Hp} {a : Addr} {cls : Value} {d : Option Addr} {B : Heap} {s0 s : Shared}
theorem Down.grown (w : Down X pins σ H a cls d B s0 s) {h' : Heap} (k : ∀ b o, s.heap.get? b = some o → h'.get? b = some o) : Down X pins σ H a cls d B s0 { s with heap := h' } :=
  ⟨w.inv, w.gr, w.up.trans (Heap.UpToSlots.of_keeps k), w.no, w.os, w.bare, fun b o q => k b o (w.fly.1 b o q), w.fly.2.1, Heap.FunFrames.of_keeps (fun b o q _ => ⟨o, k b o q, rfl⟩) w.fly.2.2.1, by
    obtain ⟨oe, vs, t, ot, ts, h1, h2, h3, h4, h5, h6, h7, h8⟩ := w.fly.2.2.2
    exact ⟨oe, vs, t, ot, ts, k _ _ h1, h2, h3, h4, h5, h6, k _ _ h7, h8⟩⟩
theorem Down.ty (w : Down X pins σ H a cls d B s0 s) : PySem.W.Looks (model X.prog X.w) s.heap (typeOf (.ref a)) cls := by
  obtain ⟨oe, vs, e, z, _⟩ := w.obj
  exact fun A Q E s k q => wpAny_typeOf_ref (k _ _ e) (z.1.symm ▸ q)
end
end Lq
namespace Lq
open PySem PySem.Spec PyProof.Rows L2
/-! ### a box made anew and a name behind it: f(box(..), y) -/
def callNewN (F : List Int → List D → Option (D × List Int)) (f : Rho → R (List D)) (i : Nat) : Rho → R VD := fun ρ => (f ρ).bind fun ds ρ1 => match allOf D.int? ds, ρ1[i]? with
  | some ns, some (.d x) => (match F ns [x] with | some (d, _) => .ok (.d d) ρ1 | none => .bad)
  | _, _ => .bad
/-! ### isinstance of an error or of None -/
def isErrND (ex : List (Nat × Bool)) : D → Option D
  | .non => some (.bl false)
  | d => isErrD ex d
end Lq
namespace Lq
open PySem PySem.Spec PyProof.Rows L2
/-! ### a box that is a name's own list: f(x, ..) changes it -/
def callME (F : List Int → List D → Option (D × List Int)) (fs : Rho → R (List VD)) : Rho → R VD := fun ρ => (fs ρ).bind fun vs ρ1 => match vs with
  | .sl i :: ws => (match ρ1[i]?, datAll ws with
    | some (.m xs), some ds => (match allOf D.int? xs with
      | some ns => (match F ns ds with | some (d, ns') => .ok (.d d) (ρ1.set i (.m (ns'.map D.int))) | none => .bad)
      | none => .bad)
    | _, _ => .bad)
  | _ => .bad
/-! ### x is True, x is False -/
def isBD : D → D → Option D
  | .bl a, .bl b => some (.bl (a == b))
  | _, _ => none
end Lq
namespace Lq
open PySem PySem.Spec PyProof.Rows L2
/-! ### x != y by the class's own __eq__ -/
section
variable {prog : Program} {w : World} {A : Around} {E : Value → Shared → Prop} {s : Shared} {K : PySem.W.Frag} {x y C L f : Addr} {h₀ : Heap} {m : Str → Option Value} {ox : Obj} {od : Option Obj} {tb : Value}
theorem neBody {Q : Fin → Shared → Prop} (X : K.In s.heap) (hu : A.units < cLine) (I : PySem.W.InstAt s.heap x ox C od) (he : PySem.W.findIn K (.ref C) "__eq__" = some (some (.ref f))) (hf : PySem.W.isFn K (.ref f) = true)
    (h : wpAny (model prog w) A (call (.ref f) [.ref x, .ref y]) (fun v s' => ∃ k, v = .bool k ∧ Q (.done (.ret (.bool (!k)))) s') E s) : wpAny (model prog w) A (Builtin.«object.__ne__» ⟨[.ref x, .ref y], []⟩) Q E s := by
  unfold Builtin.«object.__ne__»
  repeat (first
    | with_reducible refine wpAny_cRoomFor hu ?_
    | (refine wpAny_bind (m := callSpecialIfBound? (.ref x) (Str.ofString "__eq__") [.ref y])
        (PySem.W.ifBound_K X I he hf (wpAny_mono h (fun r s' hr => by
          obtain ⟨b, rfl, hq⟩ := hr
          repeat (first | exact hq | exact wpAny_pure hq | exact wpAny_truthy_bool hq | (refine wpAny_bind (m := truthy (.bool _)) (wpAny_truthy_bool ?_)) | wp_step)) fun _ _ e => e)))
    | wp_step)
theorem ne_K {Q : Value → Shared → Prop} (hu : A.units + 1 < cLine) (X : K.In s.heap) (I : PySem.W.InstAt s.heap x ox C od) (hb : PySem.W.Looks (model prog w) s.heap (typeOf (.ref y)) tb) (hn : PySem.W.notFirst K C tb = true)
    (hs : PySem.W.findIn K (.ref C) "__ne__" = some (some (.builtin "object.__ne__"))) (he : PySem.W.findIn K (.ref C) "__eq__" = some (some (.ref f))) (hf : PySem.W.isFn K (.ref f) = true) (hm : PySem.W.mroIn K C (.type "object") = some true)
    (h : wpAny (model prog w) A.in1 (call (.ref f) [.ref x, .ref y]) (fun v s' => ∃ k, v = .bool k ∧ Q (.bool (!k)) s') E s) : wpAny (model prog w) A (richCompare .NotEq (.ref x) (.ref y)) Q E s := by
  have sp : PySem.W.Looks (model prog w) s.heap (specialOf (.ref x) "__ne__") (some (.builtin "object.__ne__")) := I.type.andThen (PySem.W.looks_findIn X hs)
  have iv : PySem.W.Looks (model prog w) s.heap (isInstance (.ref x) (.type "object")) true := I.type.andThen (PySem.W.looks_mroIn X hm)
  have one : wpAny (model prog w) A (tryCompare (.ref x) "__ne__" (.ref y)) (fun r s' => ∃ v, r = some v ∧ Q v s') E s := by
    unfold tryCompare
    refine wpAny_bind (NtL.csib sp (PySem.F.slot_tuple_iterator_ne.bind _) (wpAny_call (codeAny_call_builtin PySem.F.slot_tuple_iterator_ne.plain PySem.F.cmpEntry_ne
      (@PySem.W.check_slot (model prog w) _ _ _ "object.__ne__" "object" "__ne__" (.ref x) [.ref y] [] _ PySem.F.cmpKind_ne PySem.F.cmpSplit_ne iv (PySem.F.cmpArgs_ne _ _) (neBody (A := A.in1) X hu I he hf (wpAny_mono h (fun v s' hv => ?_) fun _ _ e => e))))))
    obtain ⟨b, rfl, hq⟩ := hv
    first | exact ⟨b, rfl, wpAny_pure ⟨_, rfl, hq⟩⟩ | exact ⟨b, rfl, wpAny_pure (wpAny_pure ⟨_, rfl, hq⟩)⟩
  unfold richCompare
  simp only [oneThing_ref]
  refine wpAny_holding (wpAny_bind (wpAny_cRoomFor (Nat.lt_of_succ_lt hu) ?_))
  refine wpAny_bind (I.type.here (wpAny_bind (hb.here ?_)))
  split
  · rename_i q
    have e : PySem.W.subIn K tb (.ref C) = some false := by
      rcases Bool.or_eq_true_iff.mp hn with e | e
      · rw [beq_iff_eq.mp e] at q; simp at q
      · exact beq_iff_eq.mp e
    refine wpAny_bind ((PySem.W.looks_subIn X e).here ?_)
    simp only [Bool.false_eq_true, if_false]
    refine wpAny_bind (wpAny_mono one (fun r s' z => ?_) fun _ _ e => e)
    obtain ⟨v, rfl, hq⟩ := z
    exact wpAny_pure hq
  · refine wpAny_bind (wpAny_pure ?_)
    simp only [Bool.false_eq_true, if_false]
    refine wpAny_bind (wpAny_mono one (fun r s' z => ?_) fun _ _ e => e)
    obtain ⟨v, rfl, hq⟩ := z
    exact wpAny_pure hq
end
section
variable {X : Cx} {T : Tb} {t : Nat}
def rNeOwn (K : PySem.W.Frag) (C : Addr) (sp : Sp) (E : L2.XK) : R2 := fun x y H Q => ∃ a dx vs b C' dy ws, x = .ref a ∧ y = .ref b ∧ SlX.Slt H a C dx vs ∧ SlX.Slt H b C' dy ws ∧ PySem.W.notFirst K C (.ref C') = true ∧ sp [x, y] H (fun z H' => ∃ k, z = .bl k ∧ Q (.bl (!k)) H') E
theorem op_neOwn {n : Nat} {g C : Addr} {sp : Sp} {E : L2.XK} (hs : PySem.W.findIn X.K (.ref C) "__ne__" = some (some (.builtin "object.__ne__"))) (he : PySem.W.findIn X.K (.ref C) "__eq__" = some (some (.ref g))) (hf : PySem.W.isFn X.K (.ref g) = true) (hm : PySem.W.mroIn X.K C (.type "object") = some true) (F : FnR X.prog X.w X.K X.mg X.base (L2.CX X.prog X.w) n g sp)
    (hr : Room (n + 1) X.A) (hx : ∀ σ, PassesAt (L2.CX X.prog X.w) X σ E) : OpR X (compareOp .NotEq) (rNeOwn X.K C sp E) := by
  intro pins s σ H x y v u Q I rx ry h
  obtain ⟨a, dx, vs, b, C', dy, ws, rfl, rfl, ha, hb, hn, q⟩ := h
  cases (show v = Value.ref a from rx)
  cases (show u = Value.ref b from ry)
  obtain ⟨sl, od, _, J, _⟩ := SlX.slt_inst I ha
  obtain ⟨sl', od', _, J', _⟩ := SlX.slt_inst I hb
  show wpAny _ _ (richCompare .NotEq (.ref a) (.ref b)) _ _ _
  refine ne_K (tb := .ref C') (by have := hr.in1.units0; exact this) I.kIn J J'.type hn hs he hf hm ?_
  refine wpAny_mono (wpAny_call (run_sub (us := [.ref a, .ref b]) (ws := [.ref a, .ref b]) F hr.in1 I.env0.in1 (hx σ) I (.cons rfl (.cons rfl .nil)) q)) (fun w s' z => ?_) fun _ _ x => x
  obtain ⟨z', H', I', rz, k, rfl, qz⟩ := z
  cases (show w = Value.bool k from rz)
  exact ⟨k, rfl, .bl (!k), H', I', rfl, qz⟩
def rNeT (K : PySem.W.Frag) (T : Tb) (t : Nat) (F : List D → Res) : R2 := fun x y H Q => rNeOwn K (T t) (fun vs H Q E => spP K T 2 F (vs ++ []) H Q E) (fun _ _ _ => False) x y H Q ∨ rNe2 K x y H Q
theorem op_neT {g : Addr} {F : List D → Res} {k : Nat} {fd : FuncData} {ps : List Str} (hs : PySem.W.findIn X.K (.ref (T t)) "__ne__" = some (some (.builtin "object.__ne__"))) (hm : PySem.W.mroIn X.K (T t) (.type "object") = some true) (m : MethF X.K (T t) "__eq__" g) (Fk : FnOk X.prog X.w X.K X.mg X.base (L2.CX X.prog X.w) k g fd ps (spP X.K T 2 F)) (hb2 : Binds X.K fd ps []) (hr : Room (k + 1) X.A) (hu : X.A.units + 64 < cLine) :
    OpR X (compareOp .NotEq) (rNeT X.K T t F) :=
  (op_neOwn hs m.at_ m.fn hm (Fk.raw hb2 .nil) hr (fun _ _ _ _ _ _ _ z => (cx_no z).elim)).or (op_neA hu)
def neTD (t : Nat) (F : List D → Res) : D → D → Option D
  | .obj t1 fs, .obj t2 gs => if t1 = t ∧ t2 = t then (match F [.obj t1 fs, .obj t2 gs] with | .ok (.bl k) => some (.bl (!k)) | _ => none) else none
  | x, y => neD x y
theorem p_neT {K : PySem.W.Frag} {F : List D → Res} (ht : isSl t = true) (hn : PySem.W.notFirst K (T t) (.ref (T t)) = true) : Prim2 K T (rNeT K T t F) (neTD t F) := fun S H x y dx dy d Q e hx hy h g => by
  unfold neTD at h
  split at h
  · rename_i t1 fs t2 gs
    split at h
    · rename_i hh
      obtain ⟨rfl, rfl⟩ := hh
      split at h
      · rename_i k hF
        cases h
        obtain ⟨a, dx, vs, rfl, sl, _, rp⟩ := obj_at ht e hx
        obtain ⟨b, dy, ws, rfl, sl', _, rp'⟩ := obj_at ht e hy
        refine .inl ⟨a, dx, _, b, T _, dy, _, rfl, rfl, sl, sl', hn, S, [.obj _ fs, .obj _ gs], e, ⟨_, _, rfl, rp, _, [], rfl, rp', rfl⟩, rfl, ?_⟩
        rw [hF]
        intro S' H' v ex r
        cases (show v = .bl k from r)
        exact ⟨k, rfl, g S' H' _ ex rfl⟩
      · cases h
    · cases h
  · exact .inr (p_ne S H x y dx dy d Q e hx hy h g)
end
end Lq
namespace Lq
open PySem PySem.Spec PyProof.Rows L2
/-! ### in: data of any depth in a list of data -/
end Lq
namespace Lq
open PySem PySem.Spec PyProof.Rows L2
/-! ### tuple * 0, tuple * 1 -/
theorem mul0W (l : Addr) (vs : Array Value) (n : Nat) (x : Int) (u : Tok) (e1 : x = 0) (e2 : vs.isEmpty = false) (dd : Option Addr) (sl : Array (Option Value)) :
    Meets (Builtin.«tuple.__mul__» ⟨[.ref l, .int x u], []⟩) (fun _ R s => s.heap.get? l = some { cls := .type "tuple", dict := dd, data := .seq vs n, slots := sl } ∧ R (.ok (.ret (Value.ref s.heap.objs.size))) { s with heap := s.heap.push { cls := Value.type "tuple", data := Data.seq #[] }, toks := s.toks }) :=
  .of_wp fun prog w A R s h => by
    subst e1
    obtain ⟨hp, g, d, tk, os⟩ := s
    obtain ⟨hl, h⟩ := h
    have f1 := AutoSeq1.idx_int
    have c0 : (decide ((0 : Int) < -(2 ^ 63)) || decide ((0 : Int) ≥ 2 ^ 63)) = false := by decide
    have c1 : (vs.isEmpty || (0 : Int) == 1) = false := by rw [e2]; rfl
    have c2 : (decide ((0 : Int) ≤ 0) || vs.isEmpty) = true := by rw [e2]; rfl
    wp_walk using wpAny_loadPart' hl
    exact ⟨_, rfl, h⟩
theorem mul1W (l : Addr) (vs : Array Value) (n : Nat) (x : Int) (u : Tok) (e1 : x = 1) (dd : Option Addr) (sl : Array (Option Value)) :
    Meets (Builtin.«tuple.__mul__» ⟨[.ref l, .int x u], []⟩) (fun _ R s => s.heap.get? l = some { cls := .type "tuple", dict := dd, data := .seq vs n, slots := sl } ∧ R (.ok (.ret (Value.ref l))) s) :=
  .of_wp fun prog w A R s h => by
    subst e1
    obtain ⟨hp, g, d, tk, os⟩ := s
    obtain ⟨hl, h⟩ := h
    have f1 := AutoSeq1.idx_int
    have c0 : (decide ((1 : Int) < -(2 ^ 63)) || decide ((1 : Int) ≥ 2 ^ 63)) = false := by decide
    have c1 : (vs.isEmpty || (1 : Int) == 1) = true := by cases vs.isEmpty <;> rfl
    wp_walk using wpAny_loadPart' hl
    exact ⟨_, rfl, h⟩
def rRep01 (K : PySem.W.Frag) : R2 := fun x y H Q => ∃ l k xs, x = .ref l ∧ y = .int k ∧ SqT K H l xs ∧ xs ≠ [] ∧ ((k = 0 ∧ ∀ p, H p = none → Q (.ref p) (upd H p (.tup []))) ∨ (k = 1 ∧ Q (.ref l) H))
section
variable {X : Cx}
theorem op_rep01 : OpR X (binaryOp .Mult) (rRep01 X.K) := by
  intro pins s σ H x y v u Q I rx ry h
  obtain ⟨l, k, xs, rfl, rfl, hT, hne, q⟩ := h
  cases rx
  obtain ⟨t, rfl⟩ := ry
  obtain ⟨its, r, ⟨⟨cls, dd, data, sl⟩, ho, hc, n, hd⟩, hs⟩ := I.tuple hT
  simp only at hc hd
  subst hc hd
  have hn : its.toArray.isEmpty = false := by
    cases its with
    | nil => exact absurd (List.eq_nil_of_length_eq_zero r.length) hne
    | cons a b => rfl
  refine wpAny_binaryOp_repeat_ref (T := "tuple") (U := "int") (by decide) ⟨_, ho, rfl⟩ (fun z => typeIs_int z k t) noFill_tuple_mul F.fills_int_mul F.slot_int_rmul repeat_tuple F.slot_int_index.lookup
    (call_meets F.slot_int_rmul (typeIs_int s k t) F.entry_int_rmul (F.args_int_rmul_2 _ _) (int_rmul_tuple k t l its.toArray n dd sl) ⟨ho, rfl, ⟨_, ho, rfl⟩, ?_⟩)
  rcases q with ⟨hk, q⟩ | ⟨hk, q⟩
  · refine call_meets F.slot_tuple_mul ⟨_, ho, rfl⟩ F.entry_tuple_mul (F.args_tuple_mul_2 _ _) (mul0W l its.toArray n k t hk hn dd sl) ⟨ho, ?_⟩
    refine ⟨.ref s.heap.objs.size, _, I.laid (t' := s.toks) (o := .tup []) (fun b ob q => Heap.get?_push_of_some _ q) (Nat.le_refl _) ?_, rfl, q _ (I.hok.fresh (Nat.le_refl _))⟩
    exact ⟨by rw [sizeLine_eq]; decide, _, .nil, IsTup.new _ _⟩
  · refine call_meets F.slot_tuple_mul ⟨_, ho, rfl⟩ F.entry_tuple_mul (F.args_tuple_mul_2 _ _) (mul1W l its.toArray n k t hk dd sl) ⟨ho, ?_⟩
    exact ⟨.ref l, H, I, rfl, q⟩
end
/-- a tuple that is not empty, any number of times from 0 on -/
def mulTD : D → D → Option D
  | .tup xs, .int k => if !xs.isEmpty && decide (k = 0) then some (.tup []) else if !xs.isEmpty && decide (k = 1) then some (.tup xs) else mulD (.tup xs) (.int k)
  | x, y => mulD x y
def rMulT (K : PySem.W.Frag) : R2 := fun x y H Q => rMul3 K x y H Q ∨ rRep01 K x y H Q
theorem op_mulT {X : Cx} : OpR X (binaryOp .Mult) (rMulT X.K) := op_mulA.or op_rep01
theorem p_mulT {K : PySem.W.Frag} {T : Tb} : Prim2 K T (rMulT K) mulTD := fun S H x y dx dy d Q e hx hy h g => by
  have old : mulD dx dy = some d → rMulT K x y H Q := fun h => .inl (p_mul S H x y dx dy d Q e hx hy h g)
  have ne : ∀ {a : Addr} {vs : List V} {xs : List D}, Rps K T H xs vs → (!xs.isEmpty) = true → vs ≠ [] := fun {a vs xs} r hb z => by
    have hl := r.len
    rw [z] at hl
    rw [List.length_eq_zero_iff.mp hl.symm] at hb
    cases hb
  unfold mulTD at h
  split at h
  · split at h
    · rename_i hb
      cases h
      rw [Bool.and_eq_true] at hb
      obtain ⟨a, vs, rfl, q, r⟩ := hx.tup e
      refine .inr ⟨a, _, vs, rfl, hy.int, q, ?_, .inl ⟨of_decide_eq_true hb.2, fun p hp => g.newT e (vs := []) rfl p hp⟩⟩
      intro z
      have hl := r.len
      rw [z] at hl
      rw [List.length_eq_zero_iff.mp hl.symm] at hb
      cases hb.1
    · split at h
      · rename_i hb
        cases h
        rw [Bool.and_eq_true] at hb
        have hx0 := hx
        obtain ⟨a, vs, rfl, q, r⟩ := hx.tup e
        refine .inr ⟨a, _, vs, rfl, hy.int, q, ?_, .inr ⟨of_decide_eq_true hb.2, ?_⟩⟩
        · intro z
          have hl := r.len
          rw [z] at hl
          rw [List.length_eq_zero_iff.mp hl.symm] at hb
          cases hb.1
        · exact g.now e (by
            rcases hx0 with z | ⟨_, _, _, _, z, _⟩
            · exact z
            · cases z)
      · exact old h
  · exact old h
end Lq
namespace Lq
open PySem PySem.Spec PyProof.Rows L2
/-! ### list(zip(tuple, tuple)): the zip's own tuple is out from the first turn on -/
section
variable {prog : Program} {w : World} {A : Around} {E : Value → Shared → Prop} {s : Shared}
variable {zz TA TB ia ib la lb TT : Addr} {fl : Bool} {oT : Obj} {j : Nat} {us vs : Array Value} {u v : Value}
theorem heldT_item {Q : Value → Shared → Prop} (D : ZipApart zz TA TB ia ib la lb) (ez : IsZipHeld s.heap zz TA TB TT fl) (eT : s.heap.get? TT = some oT) (eA : IsPair s.heap TA (.ref ia) (.ref ib))
    (ja : s.heap.IsTupleIter ia la j) (jb : s.heap.IsTupleIter ib lb j) (ta : s.heap.IsTuple la us) (tb : s.heap.IsTuple lb vs) (eu : us[j]? = some u) (ev : vs[j]? = some v)
    (q : ∀ g, IsZipHeld g zz TA TB TT true → g.IsTupleIter ia la (j + 1) → g.IsTupleIter ib lb (j + 1) → IsPair g s.heap.objs.size u v → g.objs.size = s.heap.objs.size + 1 →
      (∀ c o, c ≠ zz → c ≠ ia → c ≠ ib → s.heap.get? c = some o → g.get? c = some o) → Q (.ref s.heap.objs.size) { s with heap := g }) :
    wpAny (model prog w) A (Builtin.«zip.__next__» ⟨[.ref zz], []⟩) (fun fin z => ∃ r, fin = .done (.ret r) ∧ Q r z) E s := by
  show wpAny _ _ (field (.ref zz) 2 >>= _) _ _ _
  refine wpAny_bind (wpAny_field ez rfl (x := .bool false) rfl ?_)
  show wpAny _ _ (field (.ref zz) 3 >>= _) _ _ _
  refine wpAny_bind (wpAny_field ez rfl (x := .ref TA) rfl ?_)
  refine wpAny_bind (wpAny_seqItems eA rfl ?_)
  show wpAny _ _ (Builtin.SmallTypes.ownedTupleIsFree (.ref zz) >>= _) _ _ _
  refine wpAny_bind (wpAny_tupleHeld_zip ez eT fun g1 z1 k1 => ?_)
  simp only [Bool.false_eq_true, if_false]
  refine wpAny_bind ?_
  rw [← Array.forIn_toList]
  simp only [List.forIn_cons, List.forIn_nil]
  refine wpAny_bind (wpAny_bind (wpAny_holding ?_))
  show wpAny _ _ (Builtin.SmallTypes.nextOf (.ref ia) >>= _) _ _ _
  refine wpAny_bind (RZ.nextOf_tuple_item (s := { s with heap := g1 }) (ja.extBut k1.extBut D.i1z) (ta.extBut k1.extBut D.l1z) eu fun g2 j2 k2 => wpAny_pure ?_)
  refine wpAny_pure ?_
  refine wpAny_bind (wpAny_bind (wpAny_holding ?_))
  show wpAny _ _ (Builtin.SmallTypes.nextOf (.ref ib) >>= _) _ _ _
  refine wpAny_bind (RZ.nextOf_tuple_item (s := { s with heap := g2 }) ((jb.extBut k1.extBut D.i2z).extBut k2.extBut D.i12.symm) ((tb.extBut k1.extBut D.l2z).extBut k2.extBut D.l2i1) ev fun g3 j3 k3 => wpAny_pure ?_)
  refine wpAny_pure (wpAny_pure ?_)
  show wpAny _ _ (newTuple [u, v] >>= _) _ _ _
  refine wpAny_bind (wpAny_newTuple ?_)
  have e3 : g3.objs.size = s.heap.objs.size := by rw [k3.1, k2.1, k1.1]
  have z3 : IsZipHeld g3 zz TA TB TT true := k3.extBut _ _ D.i2z.symm (k2.extBut _ _ D.i1z.symm z1)
  have kk : ∀ c o, c ≠ zz → c ≠ ia → c ≠ ib → s.heap.get? c = some o → g3.get? c = some o := fun c o c1 c2 c3 e => k3.extBut _ _ c3 (k2.extBut _ _ c2 (k1.extBut _ _ c1 e))
  have j2' : g3.IsTupleIter ia la (j + 1) := j2.extBut k3.extBut D.i12
  refine wpAny_pure ⟨_, rfl, ?_⟩
  show Q (.ref g3.objs.size) _
  have p4 : IsPair (g3.push { cls := .type "tuple", data := .seq #[u, v] }) g3.objs.size u v := Heap.get?_push_size _ rfl
  have e4 : (g3.push { cls := .type "tuple", data := .seq #[u, v] }).objs.size = g3.objs.size + 1 := Heap.size_push ..
  rw [e3] at p4 e4 ⊢
  exact q _ (Heap.get?_push_of_some _ z3) (j2'.at fun o e => Heap.get?_push_of_some _ e) (j3.at fun o e => Heap.get?_push_of_some _ e) p4 e4 fun c o c1 c2 c3 e => Heap.get?_push_of_some _ (kk c o c1 c2 c3 e)
theorem heldT_end {Q : Fin → Shared → Prop} (hh : A.handled = none) (D : ZipApart zz TA TB ia ib la lb) (ez : IsZipHeld s.heap zz TA TB TT fl) (eT : s.heap.get? TT = some oT) (eA : IsPair s.heap TA (.ref ia) (.ref ib))
    (ja : s.heap.IsTupleIter ia la j) (jb : s.heap.IsTupleIter ib lb j) (ta : s.heap.IsTuple la us) (tb : s.heap.IsTuple lb vs) (en : us[j]? = none ∨ vs[j]? = none)
    (q : ∀ g e, (∀ c o, c ≠ zz → c ≠ ia → c ≠ ib → s.heap.get? c = some o → g.get? c = some o) → (∃ o, g.get? e = some o ∧ o.cls = .type "StopIteration") → E (.ref e) { s with heap := g }) :
    wpAny (model prog w) A (Builtin.«zip.__next__» ⟨[.ref zz], []⟩) Q E s := by
  show wpAny _ _ (field (.ref zz) 2 >>= _) _ _ _
  refine wpAny_bind (wpAny_field ez rfl (x := .bool false) rfl ?_)
  show wpAny _ _ (field (.ref zz) 3 >>= _) _ _ _
  refine wpAny_bind (wpAny_field ez rfl (x := .ref TA) rfl ?_)
  refine wpAny_bind (wpAny_seqItems eA rfl ?_)
  show wpAny _ _ (Builtin.SmallTypes.ownedTupleIsFree (.ref zz) >>= _) _ _ _
  refine wpAny_bind (wpAny_tupleHeld_zip ez eT fun g1 z1 k1 => ?_)
  simp only [Bool.false_eq_true, if_false]
  refine wpAny_bind ?_
  rw [← Array.forIn_toList]
  simp only [List.forIn_cons, List.forIn_nil]
  refine wpAny_bind (wpAny_bind (wpAny_holding ?_))
  show wpAny _ _ (Builtin.SmallTypes.nextOf (.ref ia) >>= _) _ _ _
  cases eu : us[j]? with
  | none =>
    refine wpAny_bind (RZ.nextOf_tuple_end (s := { s with heap := g1 }) hh (ja.extBut k1.extBut D.i1z) (ta.extBut k1.extBut D.l1z) eu fun g2 e k2 he => ?_)
    exact q g2 e (fun c o c1 c2 _ x => k2 _ _ c2 (k1.extBut _ _ c1 x)) he
  | some u0 =>
    have ev : vs[j]? = none := by
      rcases en with h | h
      · rw [eu] at h; cases h
      · exact h
    refine wpAny_bind (RZ.nextOf_tuple_item (s := { s with heap := g1 }) (ja.extBut k1.extBut D.i1z) (ta.extBut k1.extBut D.l1z) eu fun g2 j2 k2 => wpAny_pure ?_)
    refine wpAny_pure ?_
    refine wpAny_bind (wpAny_bind (wpAny_holding ?_))
    show wpAny _ _ (Builtin.SmallTypes.nextOf (.ref ib) >>= _) _ _ _
    refine wpAny_bind (RZ.nextOf_tuple_end (s := { s with heap := g2 }) hh ((jb.extBut k1.extBut D.i2z).extBut k2.extBut D.i12.symm) ((tb.extBut k1.extBut D.l2z).extBut k2.extBut D.l2i1) ev fun g3 e k3 he => ?_)
    exact q g3 e (fun c o c1 c2 c3 x => k3 _ _ c3 (k2.extBut _ _ c2 (k1.extBut _ _ c1 x))) he
theorem nextT_item {Q : Option Value → Shared → Prop} (D : ZipApart zz TA TB ia ib la lb) (ez : IsZipHeld s.heap zz TA TB TT fl) (eT : s.heap.get? TT = some oT) (eA : IsPair s.heap TA (.ref ia) (.ref ib))
    (ja : s.heap.IsTupleIter ia la j) (jb : s.heap.IsTupleIter ib lb j) (ta : s.heap.IsTuple la us) (tb : s.heap.IsTuple lb vs) (eu : us[j]? = some u) (ev : vs[j]? = some v)
    (q : ∀ g, IsZipHeld g zz TA TB TT true → g.IsTupleIter ia la (j + 1) → g.IsTupleIter ib lb (j + 1) → IsPair g s.heap.objs.size u v → g.objs.size = s.heap.objs.size + 1 →
      (∀ c o, c ≠ zz → c ≠ ia → c ≠ ib → s.heap.get? c = some o → g.get? c = some o) → Q (some (.ref s.heap.objs.size)) { s with heap := g }) :
    wpAny (model prog w) A (pyNext (.ref zz)) Q E s := by
  have hy : s.TypeIs (.ref zz) "zip" := ⟨_, ez, rfl⟩
  unfold pyNext
  exact wpAny_bind (wpAny_attempt (wpAny_callSpecial?_slot (name := Str.ofString "__next__") hy F.slot_zip_next
    (wpAny_call_entry F.slot_zip_next hy F.entry_zip_next (heldT_item D ez eT eA ja jb ta tb eu ev fun g a b c d e k => wpAny_pure (q g a b c d e k)) (F.args_zip_next_1 _))))
theorem nextT_end {Q : Option Value → Shared → Prop} (hh : A.handled = none) (D : ZipApart zz TA TB ia ib la lb) (ez : IsZipHeld s.heap zz TA TB TT fl) (eT : s.heap.get? TT = some oT) (eA : IsPair s.heap TA (.ref ia) (.ref ib))
    (ja : s.heap.IsTupleIter ia la j) (jb : s.heap.IsTupleIter ib lb j) (ta : s.heap.IsTuple la us) (tb : s.heap.IsTuple lb vs) (en : us[j]? = none ∨ vs[j]? = none)
    (q : ∀ g, (∀ c o, c ≠ zz → c ≠ ia → c ≠ ib → s.heap.get? c = some o → g.get? c = some o) → Q none { s with heap := g }) :
    wpAny (model prog w) A (pyNext (.ref zz)) Q E s := by
  have hy : s.TypeIs (.ref zz) "zip" := ⟨_, ez, rfl⟩
  unfold pyNext
  refine wpAny_bind (wpAny_attempt (wpAny_callSpecial?_slot (name := Str.ofString "__next__") hy F.slot_zip_next
    (wpAny_call_entry F.slot_zip_next hy F.entry_zip_next (heldT_end hh D ez eT eA ja jb ta tb en fun g e k he => ?_) (F.args_zip_next_1 _))))
  obtain ⟨o, ho, hc⟩ := he
  refine wpAny_bind (wpAny_isInstance (T := "StopIteration") (b := true) ⟨o, ho, hc⟩ isSubtype_stop ?_)
  exact wpAny_pure (q _ k)
/-- the zip of two tuples at its j-th turn; its own tuple is not out yet, or is an object that stands -/
structure ZW (h : Heap) (zz TA TB ia ib la lb S : Addr) (us vs : Array Value) (j : Nat) : Prop where
  pa : IsPair h TA (.ref ia) (.ref ib)
  pb : ∃ a b, IsPair h TB a b
  ja : h.IsTupleIter ia la j
  jb : h.IsTupleIter ib lb j
  ta : h.IsTuple la us
  tb : h.IsTuple lb vs
  at_ : IsZip h zz TA TB .none ∨ ∃ T f o, IsZipHeld h zz TA TB T f ∧ h.get? T = some o ∧ T ≠ zz ∧ T ≠ TB ∧ T ≠ ia ∧ T ≠ ib ∧ T ≠ S
structure Far (zz TA TB ia ib la lb S : Addr) : Prop where
  ap : ZipApart zz TA TB ia ib la lb
  sz : zz ≠ S
  sa : TA ≠ S
  sb : TB ≠ S
  si : ia ≠ S
  sj : ib ≠ S
  sl : la ≠ S
  sm : lb ≠ S
theorem ZW.keep {h g : Heap} {S : Addr} (F : Far zz TA TB ia ib la lb S) (W : ZW h zz TA TB ia ib la lb S us vs j) (k : ∀ b o, b ≠ S → h.get? b = some o → g.get? b = some o) : ZW g zz TA TB ia ib la lb S us vs j where
  pa := k _ _ F.sa W.pa
  pb := by obtain ⟨a, b, e⟩ := W.pb; exact ⟨a, b, k _ _ F.sb e⟩
  ja := W.ja.at fun o e => k _ _ F.si e
  jb := W.jb.at fun o e => k _ _ F.sj e
  ta := W.ta.at fun o e => k _ _ F.sl e
  tb := W.tb.at fun o e => k _ _ F.sm e
  at_ := by
    rcases W.at_ with e | ⟨T, f, o, e, eo, r⟩
    · exact .inl (k _ _ F.sz e)
    · exact .inr ⟨T, f, o, k _ _ F.sz e, k _ _ r.2.2.2.2 eo, r⟩
theorem ZW.item {S : Addr} {Q : Option Value → Shared → Prop} (F : Far zz TA TB ia ib la lb S) (W : ZW s.heap zz TA TB ia ib la lb S us vs j) (hS : S < s.heap.objs.size) (eu : us[j]? = some u) (ev : vs[j]? = some v)
    (q : ∀ g, ZW g zz TA TB ia ib la lb S us vs (j + 1) → IsPair g s.heap.objs.size u v → (∀ c o, c ∉ [zz, TB, ia, ib] → s.heap.get? c = some o → g.get? c = some o) → Q (some (.ref s.heap.objs.size)) { s with heap := g }) :
    wpAny (model prog w) A (pyNext (.ref zz)) Q E s := by
  have lt : ∀ {c o}, s.heap.get? c = some o → s.heap.objs.size ≠ c := fun e => Nat.ne_of_gt (Heap.lt_size e)
  obtain ⟨a, b, eb⟩ := W.pb
  have D := F.ap
  have l1 : s.heap.objs.size ≠ ia := by obtain ⟨o, e, _⟩ := W.ja; exact lt e
  have l2 : s.heap.objs.size ≠ ib := by obtain ⟨o, e, _⟩ := W.jb; exact lt e
  have l3 := lt eb
  have l4 : s.heap.objs.size ≠ S := Nat.ne_of_gt hS
  rcases W.at_ with e | ⟨T, f, o, e, eo, r1, r2, r3, r4, r5⟩
  · have l0 := lt e
    refine RZ.pyNext_zipT_item D e W.pa eb W.ja W.jb W.ta W.tb eu ev fun g a1 a2 a3 a4 a5 a6 k => q g ⟨k _ _ D.TIz D.TITO D.TIi1 D.TIi2 W.pa, ⟨_, _, a2⟩, a3, a4, W.ta.at fun o x => k _ _ D.l1z D.l1TO D.l1i1 D.l1i2 x, W.tb.at fun o x => k _ _ D.l2z D.l2TO D.l2i1 D.l2i2 x, .inr ⟨_, false, _, a1, a5, l0, l3, l1, l2, l4⟩⟩ a5 fun c o hc x => ?_
    simp only [List.mem_cons, List.not_mem_nil, or_false, not_or] at hc
    exact k c o hc.1 hc.2.1 hc.2.2.1 hc.2.2.2 x
  · refine nextT_item D e eo W.pa W.ja W.jb W.ta W.tb eu ev fun g a1 a3 a4 a5 a6 k => q g ⟨k _ _ D.TIz D.TIi1 D.TIi2 W.pa, ⟨_, _, k _ _ D.TOz D.TOi1 D.TOi2 eb⟩, a3, a4, W.ta.at fun o x => k _ _ D.l1z D.l1i1 D.l1i2 x, W.tb.at fun o x => k _ _ D.l2z D.l2i1 D.l2i2 x, .inr ⟨T, true, _, a1, k _ _ r1 r3 r4 eo, r1, r2, r3, r4, r5⟩⟩ a5 fun c o hc x => ?_
    simp only [List.mem_cons, List.not_mem_nil, or_false, not_or] at hc
    exact k c o hc.1 hc.2.2.1 hc.2.2.2 x
theorem ZW.done {S : Addr} {Q : Option Value → Shared → Prop} (hh : A.handled = none) (F : Far zz TA TB ia ib la lb S) (W : ZW s.heap zz TA TB ia ib la lb S us vs j) (en : us[j]? = none ∨ vs[j]? = none)
    (q : ∀ g, (∀ c o, c ∉ [zz, TB, ia, ib] → s.heap.get? c = some o → g.get? c = some o) → Q none { s with heap := g }) : wpAny (model prog w) A (pyNext (.ref zz)) Q E s := by
  obtain ⟨a, b, eb⟩ := W.pb
  rcases W.at_ with e | ⟨T, f, o, e, eo, r⟩
  · refine RZ.pyNext_zipT_end hh F.ap e W.pa eb W.ja W.jb W.ta W.tb en fun g k => q g fun c o hc x => ?_
    simp only [List.mem_cons, List.not_mem_nil, or_false, not_or] at hc
    exact k c o hc.1 hc.2.1 hc.2.2.1 hc.2.2.2 x
  · refine nextT_end hh F.ap e eo W.pa W.ja W.jb W.ta W.tb en fun g k => q g fun c o hc x => ?_
    simp only [List.mem_cons, List.not_mem_nil, or_false, not_or] at hc
    exact k c o hc.1 hc.2.2.1 hc.2.2.2 x
end
/-- one tuple after another is laid -/
inductive Tups : Hp → List (List V) → List Addr → Hp → Prop where
  | nil {H : Hp} : Tups H [] [] H
  | cons {H H' : Hp} {p : Addr} {row : List V} {rows : List (List V)} {ps : List Addr} : H p = none → Tups (upd H p (.tup row)) rows ps H' → Tups H (row :: rows) (p :: ps) H'
theorem upd_swap {H : Hp} {a b : Addr} {x y : HO} (h : a ≠ b) : upd (upd H a x) b y = upd (upd H b y) a x := by
  funext c
  by_cases h1 : c = a
  · subst h1; rw [upd_ne h, upd_same, upd_same]
  · by_cases h2 : c = b
    · subst h2; rw [upd_same, upd_ne h1, upd_same]
    · rw [upd_ne h2, upd_ne h1, upd_ne h1, upd_ne h2]
theorem upd_upd {H : Hp} {a : Addr} {x y : HO} : upd (upd H a x) a y = upd H a y := by
  funext c
  by_cases h1 : c = a
  · subst h1; rw [upd_same, upd_same]
  · rw [upd_ne h1, upd_ne h1, upd_ne h1]
theorem Tups.but {S : Addr} {v : HO} : ∀ {rows : List (List V)} {ps : List Addr} {H H' : Hp}, Tups (upd H S v) rows ps H' → ∃ H2, Tups H rows ps H2 ∧ (∀ w : HO, upd H' S w = upd H2 S w) ∧ S ∉ ps
  | _, _, H, _, .nil => ⟨H, .nil, fun w => upd_upd, by simp⟩
  | _, _, H, _, .cons (p := p) (row := row) hp t => by
    have hne : p ≠ S := fun z => by rw [z, upd_same] at hp; cases hp
    rw [upd_ne hne] at hp
    rw [upd_swap (Ne.symm hne)] at t
    obtain ⟨H2, t2, e, n⟩ := Tups.but t
    exact ⟨H2, .cons hp t2, e, by
      rw [List.mem_cons]; rintro (z | z)
      · exact hne z.symm
      · exact n z⟩
section
variable {X : Cx} {pins : List (Addr × Obj)} {σ : L2.St}
theorem Tups.free : ∀ {rows : List (List V)} {ps : List Addr} {H H' : Hp}, Tups H rows ps H' → ∀ q, q ∉ ps → H q = none → H' q = none
  | _, _, _, _, .nil, q, _, h => h
  | _, _, _, _, .cons hp t, q, n, h => by
    rw [List.mem_cons, not_or] at n
    exact t.free q n.2 (by rw [upd_ne n.1]; exact h)
end
/-! ### the layer's rule -/
def lzipF (fs : Rho → R (List VD)) : Rho → R (List D) := fun ρ => (fs ρ).bind fun vs ρ1 => match vs with
  | [.d (.tup xs), .d (.tup ys)] => if decide (xs.length ≤ 1000000) then .ok (zipD xs ys) ρ1 else .bad
  | _ => .bad
section
variable {X : Cx} {T : Tb} {W : WX} {e e2 : Expr} {fs : Rho → R (List VD)} {p p2 pos pos2 : Pos}
theorem ev_lzip {fs : Rho → R (List VD)} {ρ ρ1 : Rho} {xs ys : List D} (h : fs ρ = .ok [.d (.tup xs), .d (.tup ys)] ρ1) (hl : xs.length ≤ 1000000) : lzipF fs ρ = .ok (zipD xs ys) ρ1 := by simp only [lzipF, h, R.bind, decide_eq_true hl, if_true]
end
end Lq
namespace Lq
open PySem PySem.Spec PyProof.Rows L2
/-! ### methods of lists that change nothing: index, count; text.count; max and min of a list of numbers -/
def lstM (g : D → List D → Option D) (fo : Rho → R VD) (fs : Rho → R (List VD)) : Rho → R VD := fun ρ => (fo ρ).bind fun v ρ1 => match v with
  | .d (.lst l) => (fs ρ1).bind fun vs ρ2 => (match resAll vs ρ2 with | some xs => (match g (.lst l) xs with | some d => .ok (.d d) ρ2 | none => .bad) | none => .bad)
  | _ => .bad
section
variable {fo : Rho → R VD} {fs : Rho → R (List VD)} {ρ ρ1 ρ2 : Rho} {l xs : List D} {vs : List VD} {d : D}
theorem ev_lstM {g : D → List D → Option D} (h : fo ρ = .ok (.d (.lst l)) ρ1) (h2 : fs ρ1 = .ok vs ρ2) (r : resAll vs ρ2 = some xs) (hg : g (.lst l) xs = some d) : lstM g fo fs ρ = .ok (.d d) ρ2 := by simp only [lstM, h, h2, R.bind, r, hg]
theorem ev_strM {s : Str} {g : Str → List D → Option D} (h : fo ρ = .ok (.d (.str s)) ρ1) (h2 : fs ρ1 = .ok vs ρ2) (r : resAll vs ρ2 = some xs) (hg : g s xs = some d) : strM g fo fs ρ = .ok (.d d) ρ2 := by simp only [strM, h, h2, R.bind, r, hg]
end
end Lq
namespace Lq
open PySem PySem.Spec PyProof.Rows L2
/-! ### sets of tuples of texts: one table, searched and filled -/
def kh (P : Program) (w : World) (k : List Str) : Int := tupleKeyHash (strKind P w) k
def IsS (P : Program) (w : World) (h : Heap) (k : List Str) (b : Addr) : Prop := IsTupleKey (strKind P w) h k b
section
variable {P : Program} {w : World} {A : Around} {E : Value → Shared → Prop} {s : Shared}
theorem strs_of {k : List Str} {vs : List Value} (h : ItemsAre (strKind P w) k vs) : ∀ v ∈ vs, ∃ z t, v = Value.str z t := by
  induction h with
  | nil => exact fun _ h => nomatch h
  | @cons z u ks us e _ ih =>
    intro v hv
    cases hv with
    | head => obtain ⟨t, e⟩ := Value.isStrOf_shape e; exact ⟨z, t, e⟩
    | tail _ hv => exact ih v hv
theorem noClass_str (n : Nat) (z : Str) (t : Tok) : ofAClassStatement n (.str z t) = pure false := by cases n <;> rfl
theorem hash_str (n : Nat) (z : Str) (t : Tok) : hashByValue n (.str z t) = pure false := by unfold hashByValue; cases n <;> rfl
/-- a walk over a tuple's texts that asks each one a question with one answer -/
theorem each_str {items : Array Value} {f : Value → (Option Bool × PUnit) → Sem (ForInStep (Option Bool × PUnit))} {Q : (Option Bool × PUnit) → Shared → Prop} (hv : ∀ v ∈ items.toList, ∃ z t, v = Value.str z t)
    (hf : ∀ z t r, r.1 = none → f (.str z t) r = pure (.yield r)) (hQ : ∀ r, r.1 = none → Q r s) : wpAny (model P w) A (forIn items ((none : Option Bool), PUnit.unit) f) Q E s := by
  rw [← Array.forIn_toList]
  have go : ∀ (l : List Value) (r : Option Bool × PUnit), (∀ v ∈ l, ∃ z t, v = Value.str z t) → r.1 = none → forIn l r f = pure r := by
    intro l
    induction l with
    | nil => intro r _ _; rfl
    | cons v l ih =>
      intro r hl hr
      obtain ⟨z, t, rfl⟩ := hl v List.mem_cons_self
      rw [List.forIn_cons, hf z t r hr, pure_bind]
      exact ih r (fun u hu => hl u (List.mem_cons_of_mem _ hu)) hr
  rw [go items.toList _ hv rfl]
  exact wpAny_pure (hQ _ rfl)
theorem noClass_tup {k : List Str} {b : Addr} {Q : Bool → Shared → Prop} (x : IsS P w s.heap k b) (h : Q false s) : wpAny (model P w) A (ofAClassStatement 8 (.ref b)) Q E s := by
  have ty := IsTupleKey.typeIs x
  obtain ⟨o, items, n, eo, _, ed, ei⟩ := x
  unfold ofAClassStatement
  refine wpAny_bind (wpAny_typeOf ty ?_)
  have e0 : (("tuple" : String) == "tuple") = true := by decide
  simp only [e0, if_true, Bool.not_true, Bool.false_eq_true, if_false]
  refine wpAny_bind (wpAny_pure ?_)
  simp only [Bool.not_true, Bool.false_eq_true, if_false]
  show wpAny _ _ (seqItems? (.ref b) >>= _) _ _ s
  refine wpAny_bind (wpAny_seqItems eo ed ?_)
  dsimp only
  refine wpAny_bind (each_str (strs_of ei) (fun z t r hr => ?_) fun r hr => ?_)
  · rw [noClass_str]
    obtain ⟨r1, r2⟩ := r
    simp only at hr
    subst hr
    rfl
  · obtain ⟨r1, r2⟩ := r
    simp only at hr
    subst hr
    exact wpAny_pure h
theorem hashBy_any {k : List Str} {b : Addr} {Q : Bool → Shared → Prop} (x : IsS P w s.heap k b) (h : ∀ r, Q r s) : wpAny (model P w) A (hashByValue 8 (.ref b)) Q E s := by
  have ty := IsTupleKey.typeIs x
  obtain ⟨o, items, n, eo, _, ed, ei⟩ := x
  unfold hashByValue
  refine wpAny_bind (wpAny_specialOf ty F.slot_tuple_hash.lookup ?_)
  show wpAny _ _ (seqItems? (.ref b) >>= _) _ _ s
  refine wpAny_bind (wpAny_seqItems eo ed ?_)
  refine wpAny_bind ?_
  show wpAny _ _ (forIn items _ _) _ _ s
  rw [← Array.forIn_toList]
  cases hl : items.toList with
  | nil => exact wpAny_pure (wpAny_pure (h _))
  | cons v l =>
    obtain ⟨z, t, rfl⟩ := strs_of ei v (by rw [hl]; exact List.mem_cons_self)
    rw [List.forIn_cons, hash_str]
    refine wpAny_bind (wpAny_bind (wpAny_pure ?_))
    simp only [Bool.not_false, if_true]
    exact wpAny_pure (wpAny_pure (wpAny_pure (h _)))
theorem quiet_tups {k : List Str} {b : Addr} {Q : Bool → Shared → Prop} (x : IsS P w s.heap k b) (h : Q false s) : ∀ {ys : List Value}, (∀ y ∈ ys, ∃ k' c, y = Value.ref c ∧ IsS P w s.heap k' c) → wpAny (model P w) A (searchCouldBeSeen (.ref b) ys) Q E s := by
  intro ys hy
  unfold searchCouldBeSeen
  refine wpAny_bind (wpAny_forIn_list _ (fun rest (r : Option Bool × PUnit) z => r.1 = none ∧ z = s ∧ ∀ y ∈ rest, ∃ k' c, y = Value.ref c ∧ IsS P w s.heap k' c) _ ?_ ?_ _ _ ⟨rfl, rfl, hy⟩)
  · rintro v rest r z ⟨hr, rfl, all⟩
    obtain ⟨k', c, rfl, xc⟩ := all v List.mem_cons_self
    have more := fun u (hu : u ∈ rest) => all u (List.mem_cons_of_mem _ hu)
    dsimp only
    by_cases hv : (b == c || (carriedByValue (.ref b) && carriedByValue (.ref c))) = true
    · exact wp_if_pos hv (wpAny_pure ⟨rfl, rfl, more⟩)
    · refine wp_if_neg hv (wpAny_bind (wpAny_eqIsQuiet_tuple x ?_))
      simp only [Bool.not_true, Bool.false_eq_true, if_false]
      refine wpAny_bind (wpAny_eqIsQuiet_tuple xc ?_)
      simp only [Bool.not_true, Bool.false_eq_true, if_false]
      refine wpAny_bind (noClass_tup x ?_)
      simp only [Bool.false_eq_true, if_false]
      refine wpAny_bind (noClass_tup xc ?_)
      simp only [Bool.false_eq_true, if_false]
      exact wpAny_pure ⟨rfl, rfl, more⟩
  · rintro ⟨r1, r2⟩ z ⟨hr, rfl, _⟩
    simp only at hr
    subst hr
    exact wpAny_pure h
/-- the set at a holds the tuples L, in the order of its table -/
structure SS (P : Program) (w : World) (h : Heap) (a : Addr) (L : List (Addr × List Str)) (es : Array (Int × Value)) (ep : Nat) (t : SetTable) : Prop where
  obj : ∃ o, h.get? a = some o ∧ o.ExactSet ∧ o.data = .set es ep t
  ent : es.toList = L.map fun p => (kh P w p.2, Value.ref p.1)
  tab : TabOk t (L.map fun p => kh P w p.2)
  dif : (L.map (·.2)).Nodup
  tps : ∀ p ∈ L, IsS P w h p.2 p.1
  led : w.params.followText "set-order" = true ∨ t.led = true
  room : L.length * 5 < t.mask * 3
  few : L.length < 64
variable {a : Addr} {L : List (Addr × List Str)} {es : Array (Int × Value)} {ep : Nat} {t : SetTable}
theorem SS.len (R : SS P w s.heap a L es ep t) : es.size = L.length := by rw [← Array.length_toList, R.ent, List.length_map]
theorem SS.plc (R : SS P w s.heap a L es ep t) : t.place.toList.length = L.length := by rw [Array.length_toList, R.tab.sz, List.length_map]
theorem SS.fit (R : SS P w s.heap a L es ep t) : t.fits es.size = true := by
  have l1 := R.plc
  have l2 := R.len
  have l3 := R.room
  rw [Array.length_toList] at l1
  unfold SetTable.fits SetTable.fill
  rw [R.tab.dm, Bool.and_eq_true, beq_iff_eq, decide_eq_true_eq]
  exact ⟨by omega, by show t.place.size + 0 ≤ t.mask; omega⟩
theorem SS.nth (R : SS P w s.heap a L es ep t) {i : Nat} {p : Addr × List Str} (h : L[i]? = some p) : es[i]? = some (kh P w p.2, Value.ref p.1) := by
  rw [← Array.getElem?_toList, R.ent, List.getElem?_map, h]; rfl
theorem SS.here (R : SS P w s.heap a L es ep t) : ¬ t.gaveWay = true := by
  unfold SetTable.gaveWay
  rw [mask_odd R.tab.mok]; decide
theorem nth_dummy (m : Nat) : ∀ (n : Nat) (p : SetTable.Probe), p.dummy = none → (nth m p n).dummy = none
  | 0, _, h => h
  | n + 1, p, h => nth_dummy m n (adv m p) (by unfold adv; split <;> exact h)
/-- the probe's start, and its c-th step -/
def p0 (m : Nat) (h : Int) : SetTable.Probe := runAt m (SetTable.bits h % (m + 1)) (SetTable.bits h)
theorem look (R : SS P w s.heap a L es ep t) {b : Addr} {k : List Str} (x : IsS P w s.heap k b) (hu : A.units < cLine) {K : Nat} (k1 : K < 10 * SetTable.turns t.mask)
    (k2 : way t.mask (kh P w k) K ∉ t.place.toList) (k3 : ∀ c, c < K → way t.mask (kh P w k) c ∈ t.place.toList) {Q : SetFound → Shared → Prop}
    (yes : k ∈ L.map (·.2) → Q (.there none) s) (no : k ∉ L.map (·.2) → Q (.free (way t.mask (kh P w k) K) false) s) :
    ∀ (f c : Nat) (st : Option SetTable.Probe), st.getD (t.probeStart (kh P w k)) = nth t.mask (p0 t.mask (kh P w k)) c → c ≤ K → K - c < f →
      (∀ (i : Nat) p, L[i]? = some p → p.2 = k → ∃ d, c ≤ d ∧ d < K ∧ t.place.toList[i]? = some (way t.mask (kh P w k) d)) →
      wpAny (model P w) A (setSearchFrom a (.ref b) (kh P w k) true f st) Q E s := by
  obtain ⟨o, eo, ex, ed⟩ := R.obj
  have hsh : ∀ (i : Nat) p, L[i]? = some p → (fun i => (es[i]?.map (·.1)).getD 0) i = kh P w p.2 := fun i p hp => by
    show (es[i]?.map (·.1)).getD 0 = _
    rw [R.nth hp]; rfl
  intro f
  induction f with
  | zero => exact fun c st _ _ hf _ => absurd hf (Nat.not_lt_zero _)
  | succ f ih =>
    intro c st hst hc hf all
    have two : ∀ q, nth t.mask (nth t.mask (p0 t.mask (kh P w k)) c) q = nth t.mask (p0 t.mask (kh P w k)) (c + q) := fun q => (nth_add t.mask c _ q).symm
    have jj : ∀ q, (nth t.mask (nth t.mask (p0 t.mask (kh P w k)) c) q).j = way t.mask (kh P w k) (c + q) := fun q => congrArg SetTable.Probe.j (two q)
    rw [setSearchFrom_succ]
    refine wpAny_bind (wpAny_setState_of eo ed R.fit ?_)
    dsimp only
    refine wp_if_neg R.here ?_
    rcases go_spec t R.tab.ris R.tab.dm (fun i => (es[i]?.map (·.1)).getD 0) (kh P w k) (10 * SetTable.turns t.mask) (K - c) _ (nth_dummy t.mask c (p0 t.mask (kh P w k)) rfl) (by omega)
      (fun q hq => by rw [jj]; exact k3 (c + q) (by omega)) (by rw [jj, show c + (K - c) = K by omega]; exact k2) with ⟨q, i, hq, hi, hh, fresh, ans⟩ | ⟨fresh, ans⟩
    · have met : t.probe (fun i => (es[i]?.map (·.1)).getD 0) (kh P w k) (st.getD (t.probeStart (kh P w k))) = some (.candidate (way t.mask (kh P w k) (c + q)) i (nth t.mask (p0 t.mask (kh P w k)) (c + (q + 1)))) := by
        rw [hst, ← jj, ← two]; exact ans
      rw [met]
      dsimp only
      rw [jj] at hi
      have il : i < L.length := by rw [← R.plc]; exact (List.getElem?_eq_some_iff.mp hi).1
      have hp : L[i]? = some L[i] := List.getElem?_eq_getElem il
      generalize L[i] = p at hp
      have pm : p ∈ L := List.mem_of_getElem? hp
      have sl : t.slot (way t.mask (kh P w k) (c + q)) = .live i := slot_live R.tab.ris hi
      have rest : wpAny (model P w) A (searchRest a (.ref b) (kh P w k) true f es t (way t.mask (kh P w k) (c + q)) i (nth t.mask (p0 t.mask (kh P w k)) (c + (q + 1)))) Q E s := by
        unfold searchRest
        rw [R.nth hp]
        dsimp only
        refine wpAny_bind (wpAny_holding (wpAny_eqBool_tuple hu (R.tps p pm) x ?_))
        refine wpAny_bind (wpAny_setState_of eo ed R.fit ?_)
        dsimp only
        by_cases e : p.2 = k
        · exact wp_if_pos (by simp [e]) (wpAny_pure (yes (List.mem_map.mpr ⟨p, pm, e⟩)))
        · refine wp_if_neg (by simp [e]) ?_
          rw [sameMem]
          dsimp only
          simp only [if_true, sl, R.nth hp]
          refine wpAny_bind (wpAny_isSame_ref_self (wpAny_bind (wpAny_pure ?_)))
          simp only [if_true]
          refine wp_if_neg (by simp [e]) (ih (c + (q + 1)) _ rfl (by omega) (by omega) fun i' p' hp' e' => ?_)
          obtain ⟨d, d1, d2, d3⟩ := all i' p' hp' e'
          refine ⟨d, ?_, d2, d3⟩
          rcases Nat.lt_trichotomy d (c + q) with z | z | z
          · refine absurd ((hsh i' p' hp').trans (congrArg (kh P w) e')) (fresh (d - c) i' (by omega) ?_)
            rw [jj, show c + (d - c) = d by omega]; exact d3
          · rw [z] at d3
            have sl' := slot_live R.tab.ris d3
            rw [sl] at sl'
            injection sl' with ii
            rw [← ii, hp] at hp'
            exact absurd ((congrArg Prod.snd (Option.some.inj hp')).trans e') e
          · omega
      by_cases hl : t.led = true
      · exact wp_if_neg (by simp [hl]) rest
      · refine wp_if_pos (by simp [hl]) (wpAny_bind (quiet_tups x ?_ fun y hy => ?_))
        · exact wp_if_neg (by decide) rest
        · obtain ⟨e, he, ee⟩ := List.mem_map.mp hy
          have he2 : e ∈ es ∧ e.1 = kh P w k := by simpa using he
          have he3 : e ∈ es.toList := by simpa using he2.1
          rw [R.ent] at he3
          obtain ⟨p2, hp2, e2⟩ := List.mem_map.mp he3
          exact ⟨p2.2, p2.1, by rw [← ee, ← e2], R.tps p2 hp2⟩
    · have met : t.probe (fun i => (es[i]?.map (·.1)).getD 0) (kh P w k) (st.getD (t.probeStart (kh P w k))) = some (.empty (way t.mask (kh P w k) K) none) := by
        have e2 : way t.mask (kh P w k) K = (nth t.mask (nth t.mask (p0 t.mask (kh P w k)) c) (K - c)).j := by rw [jj, show c + (K - c) = K by omega]
        rw [hst, e2]; exact ans
      rw [met]
      dsimp only
      refine wpAny_pure (no fun hm => ?_)
      obtain ⟨p', hp', e'⟩ := List.mem_map.mp hm
      obtain ⟨i', hi', ei⟩ := List.getElem_of_mem hp'
      have hpi : L[i']? = some p' := by rw [List.getElem?_eq_getElem hi', ei]
      obtain ⟨d, d1, d2, d3⟩ := all i' p' hpi e'
      refine fresh (d - c) i' (by omega) (by rw [jj, show c + (d - c) = d by omega]; exact d3) ((hsh i' p' hpi).trans (congrArg (kh P w) e'))
theorem look0 (R : SS P w s.heap a L es ep t) {b : Addr} {k : List Str} (x : IsS P w s.heap k b) (hu : A.units < cLine) {Q : SetFound → Shared → Prop}
    (yes : k ∈ L.map (·.2) → Q (.there none) s)
    (no : ∀ K, k ∉ L.map (·.2) → way t.mask (kh P w k) K ∉ t.place.toList → (∀ c, c < K → way t.mask (kh P w k) c ∈ t.place.toList) → Q (.free (way t.mask (kh P w k) K) false) s) :
    wpAny (model P w) A (setSearch a (.ref b) (kh P w k) true) Q E s := by
  have l3 := R.room
  obtain ⟨K, k1, k2, k3⟩ := R.tab.first (by rw [List.length_map]; omega) (kh P w k)
  have kb : K < 100000 := by
    have : 10 * SetTable.turns t.mask ≤ 1420 := by
      unfold SetTable.turns
      rcases R.tab.mok with e | e | e <;> omega
    omega
  unfold setSearch
  refine look R x hu k1 k2 k3 yes (fun hn => no K hn k2 k3) 100000 0 none rfl (Nat.zero_le _) (by omega) fun i p hp e => ?_
  have hi : (L.map fun p => kh P w p.2)[i]? = some (kh P w k) := by rw [List.getElem?_map, hp, ← e]; rfl
  have il : i < t.place.toList.length := by rw [R.plc]; exact (List.getElem?_eq_some_iff.mp hp).1
  obtain ⟨c, c1, c2⟩ := R.tab.before k2 hi (List.getElem?_eq_getElem il)
  exact ⟨c, Nat.zero_le _, c1, by rw [List.getElem?_eq_getElem il, c2]⟩
theorem IsS.but {h g : Heap} {k : List Str} {b : Addr} {o : Obj} (x : IsS P w h k b) (eo : h.get? a = some o) (ed : o.data = .set es ep t) (sb : Heap.SameBut a h g) : IsS P w g k b := by
  obtain ⟨o', its, n, e1, e2, e3, e4⟩ := x
  refine ⟨o', its, n, (sb.2 b fun z => ?_).trans e1, e2, e3, e4⟩
  rw [z, eo] at e1
  rw [← Option.some.inj e1, ed] at e3
  exact nomatch e3
theorem IsS.keep {h g : Heap} {k : List Str} {b : Addr} (x : IsS P w h k b) (kk : ∀ c o, h.get? c = some o → g.get? c = some o) : IsS P w g k b := by
  obtain ⟨o', its, n, e1, r⟩ := x
  exact ⟨o', its, n, kk b o' e1, r⟩
theorem SS.keep {h g : Heap} (R : SS P w h a L es ep t) (ka : ∀ o, h.get? a = some o → g.get? a = some o) (kt : ∀ p ∈ L, IsS P w g p.2 p.1) : SS P w g a L es ep t := by
  obtain ⟨o, eo, r⟩ := R.obj
  exact ⟨⟨o, ka o eo, r⟩, R.ent, R.tab, R.dif, kt, R.led, R.room, R.few⟩
/-- entries taken in another order -/
theorem entries_in (he : es.toList = L.map fun p => (kh P w p.2, Value.ref p.1)) {od : Array Nat} (hp : od.toList.Perm (List.range L.length)) :
    ∃ M : List (Addr × List Str), (od.filterMap (es[·]?)).toList = M.map (fun p => (kh P w p.2, Value.ref p.1)) ∧ M.Perm L ∧ (M.map fun p => kh P w p.2) = od.toList.map fun i => (es.map (·.1)).getD i 0 := by
  have ent : ∀ i (h : i < L.length), es[i]? = some (kh P w (L[i]).2, Value.ref (L[i]).1) := fun i h => by
    rw [← Array.getElem?_toList, he, List.getElem?_map, List.getElem?_eq_getElem h]; rfl
  have go : ∀ l : List Nat, (∀ i ∈ l, i < L.length) → l.filterMap (fun i => es[i]?) = (l.filterMap fun i => L[i]?).map (fun p => (kh P w p.2, Value.ref p.1)) ∧ ((l.filterMap fun i => L[i]?).map fun p => kh P w p.2) = l.map fun i => (es.map (·.1)).getD i 0 := by
    intro l
    induction l with
    | nil => exact fun _ => ⟨rfl, rfl⟩
    | cons i l ih =>
      intro hl
      have hi := hl i List.mem_cons_self
      obtain ⟨a1, a2⟩ := ih fun j hj => hl j (List.mem_cons_of_mem _ hj)
      have e1 : (es.map (·.1)).getD i 0 = kh P w (L[i]).2 := by
        have : (es.map (·.1))[i]? = some (kh P w (L[i]).2) := by rw [Array.getElem?_map, ent i hi]; rfl
        simp [Array.getD_eq_getD_getElem?, this]
      rw [List.filterMap_cons_some (ent i hi), List.filterMap_cons_some (List.getElem?_eq_getElem hi), a1]
      exact ⟨rfl, by rw [List.map_cons, List.map_cons, a2, e1]⟩
  obtain ⟨a1, a2⟩ := go od.toList fun i hi => List.mem_range.mp (hp.mem_iff.mp hi)
  refine ⟨od.toList.filterMap fun i => L[i]?, by rw [Array.toList_filterMap]; exact a1, ?_, a2⟩
  have h2 : ∀ n, n ≤ L.length → (List.range n).filterMap (fun i => L[i]?) = L.take n := by
    intro n
    induction n with
    | zero => exact fun _ => rfl
    | succ n ih =>
      intro hn
      rw [List.range_succ, List.filterMap_append, ih (by omega), List.take_succ, List.getElem?_eq_getElem (by omega), List.filterMap_cons_some (List.getElem?_eq_getElem (by omega))]; rfl
  have h3 := h2 L.length (Nat.le_refl _)
  rw [List.take_length] at h3
  have h4 := hp.filterMap fun i => L[i]?
  rwa [h3] at h4
/-- laid anew in a larger table -/
theorem relay {o : Obj} (eo : s.heap.get? a = some o) (ex : o.ExactSet) (ed : o.data = .set es ep t) (he : es.toList = L.map fun p => (kh P w p.2, Value.ref p.1)) (sz : t.place.size = es.size) (dm : t.dummies = #[]) (fl : es.size ≤ t.mask)
    (nd : (L.map (·.2)).Nodup) (tp : ∀ p ∈ L, IsS P w s.heap p.2 p.1) (ld : w.params.followText "set-order" = true ∨ t.led = true) (few : L.length < 64) {wt M : Nat}
    (m1 : SetTable.sizeAbove wt - 1 = M) (m2 : MaskOk M) (m3 : SetTable.sizeAbove wt ≤ 128) (m4 : L.length * 5 < M * 3) {Q : Unit → Shared → Prop}
    (q : ∀ g L' es' ep' t', Heap.SameBut a s.heap g → SS P w g a L' es' ep' t' → L'.Perm L → Q () { s with heap := g }) : wpAny (model P w) A (setRelay a wt) Q E s := by
  have l0 : es.size = L.length := by rw [← Array.length_toList, he, List.length_map]
  have ft : t.fits es.size = true := by
    unfold SetTable.fits SetTable.fill
    rw [dm, Bool.and_eq_true, beq_iff_eq, decide_eq_true_eq]
    exact ⟨sz, by show t.place.size + 0 ≤ t.mask; omega⟩
  obtain ⟨t', od, e, pm, T, em, el, _, _⟩ := relaid_ok t (hs := es.map (·.1)) (wanted := wt) m1 m2 (by rw [Array.size_map, l0]; omega)
  rw [Array.size_map, l0] at pm
  obtain ⟨N, n1, n2, n3⟩ := entries_in he pm
  rw [← n3] at T
  have l2 : (od.filterMap (es[·]?)).size = L.length := by rw [← Array.length_toList, n1, List.length_map, n2.length_eq]
  rw [setRelay_eq]
  refine wpAny_bind (wpAny_setState_of eo ed ft ?_)
  dsimp only
  refine wp_if_neg (by rw [sizeLine_eq]; omega) ?_
  rw [e]
  dsimp only
  refine wpAny_bind (wp_if_neg (by rw [l2, l0]; simp) (wpAny_pure ?_))
  dsimp only
  refine wpAny_storeSet_of eo ed ?_ (by rw [l2, sizeLine_eq]; omega)
  have sb : Heap.SameBut a s.heap (s.heap.update a (Obj.putSet (od.filterMap (es[·]?)) t')) := Heap.SameBut.update ..
  exact q _ N (od.filterMap (es[·]?)) (ep + 1) t' sb ⟨⟨_, store_at eo ed, ⟨ex.1, ex.2.1, ex.2.2⟩, rfl⟩, n1, T, (n2.map (·.2)).nodup_iff.mpr nd, fun p hp => (tp p (n2.mem_iff.mp hp)).but eo ed sb, by rw [el]; exact ld, by rw [n2.length_eq, em]; exact m4, by rw [n2.length_eq]; exact few⟩ n2
/-- one tuple more, or none if it is there -/
theorem put1 (R : SS P w s.heap a L es ep t) {b : Addr} {k : List Str} (x : IsS P w s.heap k b) (hu : A.units < cLine) (few : k ∉ L.map (·.2) → L.length + 1 < 64) {Q : Bool → Shared → Prop}
    (q : ∀ r g L' es' ep' t', Heap.SameBut a s.heap g → SS P w g a L' es' ep' t' → (k ∈ L.map (·.2) → L' = L) → (k ∉ L.map (·.2) → L'.Perm ((b, k) :: L)) → Q r { s with heap := g }) :
    wpAny (model P w) A (setAddHashed a (.ref b) (kh P w k)) Q E s := by
  obtain ⟨o, eo, ex, ed⟩ := R.obj
  have l0 := R.len
  have l3 := R.room
  unfold setAddHashed
  refine wpAny_holding ?_
  rw [show (100000 : Nat) = 99999 + 1 from rfl, setAddHashedIn_succ]
  refine wpAny_bind (wpAny_setState_of eo ed R.fit ?_)
  dsimp only
  refine wp_if_neg (by simp [byScan, Value.scannable]) ?_
  refine wpAny_bind (look0 R x hu (fun hm => ?_) fun K hm k2 k3 => ?_)
  · dsimp only
    exact wpAny_pure (q false s.heap L es ep t (Heap.SameBut.refl a s.heap) R (fun _ => rfl) fun z => absurd hm z)
  · dsimp only
    refine wpAny_bind (wpAny_setState_of eo ed R.fit ?_)
    dsimp only
    have few := few hm
    obtain ⟨c1, c2, c3, c4, c5, c6, c7, c8, c9⟩ := R.tab.put k2 k3
    generalize hpt : t.put (way t.mask (kh P w k) K) = pt at c1 c3 c4 c5 c6 c7 c8 c9 ⊢
    obtain ⟨t1, at_⟩ := pt
    dsimp only at c1 c3 c4 c5 c6 c7 c8 c9 ⊢
    subst c1
    generalize SetTable.below t.place (way t.mask (kh P w k) K) = j at c2 c3 ⊢
    have inn : (SetTable.insertAt es j (kh P w k, Value.ref b)).toList = (L.take j ++ (b, k) :: L.drop j).map fun p => (kh P w p.2, Value.ref p.1) := by
      rw [SetTable.toList_insertAt, R.ent, List.map_append, List.map_cons, List.map_take, List.map_drop]
    have pm : (L.take j ++ (b, k) :: L.drop j).Perm ((b, k) :: L) := by
      have : (L.take j ++ (b, k) :: L.drop j).Perm ((b, k) :: (L.take j ++ L.drop j)) := List.perm_middle
      rwa [List.take_append_drop] at this
    have c3' : TabOk t1 ((L.take j ++ (b, k) :: L.drop j).map fun p => kh P w p.2) := by
      rw [List.map_append, List.map_cons, List.map_take, List.map_drop]; exact c3
    have ln : (L.take j ++ (b, k) :: L.drop j).length = L.length + 1 := pm.length_eq
    have nd : ((L.take j ++ (b, k) :: L.drop j).map (·.2)).Nodup := (pm.map (·.2)).nodup_iff.mpr (by rw [List.map_cons]; exact List.nodup_cons.mpr ⟨hm, R.dif⟩)
    have le : (SetTable.insertAt es j (kh P w k, Value.ref b)).size = L.length + 1 := by rw [← Array.length_toList, inn, List.length_map, ln]
    generalize SetTable.insertAt es j (kh P w k, Value.ref b) = es1 at inn le ⊢
    generalize L.take j ++ (b, k) :: L.drop j = L1 at pm ln c3' nd inn
    -- whether its hash is by value or not: the table's places are the same
    have rest : ∀ r : Bool, wpAny (model P w) A (do
        storeSet a es1 (if r = true then t1 else { t1 with plain := false })
        if !false && (if r = true then t1 else { t1 with plain := false }).tooFull then setRelay a (SetTable.grown (es.size + 1))
        return true) Q E s := fun r => by
      obtain ⟨t2, e2, m2, l2, f2, T2⟩ : ∃ t2, (if r = true then t1 else { t1 with plain := false }) = t2 ∧ t2.mask = t1.mask ∧ t2.led = t1.led ∧ t2.tooFull = t1.tooFull ∧ TabOk t2 (L1.map fun p => kh P w p.2) := by
        cases r
        · exact ⟨{ t1 with plain := false }, rfl, rfl, rfl, rfl, ⟨c3'.ris, c3'.dm, c3'.sz, c3'.mok, c3'.bd, c3'.reach⟩⟩
        · exact ⟨t1, rfl, rfl, rfl, rfl, c3'⟩
      rw [e2]
      refine wpAny_bind (wpAny_storeSet_of eo ed ?_ (by rw [le, sizeLine_eq]; omega))
      have sb : Heap.SameBut a s.heap (s.heap.update a (Obj.putSet es1 t2)) := Heap.SameBut.update ..
      have eo1 := store_at (es' := es1) (t' := t2) eo ed
      generalize s.heap.update a (Obj.putSet es1 t2) = h1 at sb eo1 ⊢
      have tp1 : ∀ p ∈ L1, IsS P w h1 p.2 p.1 := fun p hp => by
        rcases List.mem_cons.mp (pm.mem_iff.mp hp) with z | z
        · rw [z]; exact x.but eo ed sb
        · exact (R.tps p z).but eo ed sb
      have ld1 : w.params.followText "set-order" = true ∨ t2.led = true := by rw [l2, c5]; exact R.led
      have full : t2.tooFull = decide ((L.length + 1) * 5 ≥ t.mask * 3) := by
        rw [f2]
        unfold SetTable.tooFull
        rw [c9, List.length_map, c4]
      by_cases hf : (L.length + 1) * 5 ≥ t.mask * 3
      · rw [decide_eq_true hf] at full
        refine wp_if_pos (by simp [full]) (wpAny_bind ?_)
        rw [l0]
        have two : (t.mask = 7 ∧ L.length = 4) ∨ (t.mask = 31 ∧ L.length = 18) := by
          rcases R.tab.mok with e | e | e
          · left; rw [e] at hf l3; exact ⟨e, by omega⟩
          · right; rw [e] at hf l3; exact ⟨e, by omega⟩
          · exfalso; rw [e] at hf; omega
        have go : ∀ M, SetTable.sizeAbove (SetTable.grown (L.length + 1)) - 1 = M → MaskOk M → SetTable.sizeAbove (SetTable.grown (L.length + 1)) ≤ 128 → (L.length + 1) * 5 < M * 3 →
            wpAny (model P w) A (setRelay a (SetTable.grown (L.length + 1))) (fun _ z => wpAny (model P w) A (pure true) Q E z) E { s with heap := h1 } := fun M m1 m2' m3 m4 => by
          have sz1 : t2.place.size = es1.size := by rw [T2.sz, List.length_map, ln, le]
          refine relay (s := { s with heap := h1 }) eo1 ⟨ex.1, ex.2.1, ex.2.2⟩ rfl inn sz1 T2.dm (by rw [le, m2, c4]; rcases two with ⟨e, e2⟩ | ⟨e, e2⟩ <;> omega) nd tp1 ld1 (by rw [ln]; exact few) m1 m2' m3 (by rw [ln]; exact m4) ?_
          intro h2 L2 es2 ep2 t3 sb2 R2 pm2
          exact wpAny_pure (q true h2 L2 es2 ep2 t3 (sb.trans sb2) R2 (fun z => absurd z hm) fun _ => pm2.trans pm)
        rcases two with ⟨_, e2⟩ | ⟨_, e2⟩
        · exact go 31 (by rw [e2, size_20]) (.inr (.inl rfl)) (by rw [e2, size_20]; decide) (by omega)
        · exact go 127 (by rw [e2, size_76]) (.inr (.inr rfl)) (by rw [e2, size_76]; decide) (by omega)
      · rw [decide_eq_false hf] at full
        refine wp_if_neg (by simp [full]) ?_
        exact wpAny_pure (q true h1 L1 es1 (ep + 1) t2 sb ⟨⟨_, eo1, ⟨ex.1, ex.2.1, ex.2.2⟩, rfl⟩, inn, T2, nd, tp1, ld1, by rw [ln, m2, c4]; omega, by rw [ln]; exact few⟩ (fun z => absurd z hm) fun _ => pm)
    by_cases hp : t1.plain = true
    · exact wp_if_pos hp (wpAny_bind (hashBy_any x fun r => rest r))
    · exact wp_if_neg hp (wpAny_bind (wpAny_pure (rest true)))
end
theorem nodup_sub {α : Type} [DecidableEq α] : ∀ {l U : List α}, l.Nodup → (∀ x ∈ l, x ∈ U) → l.length ≤ U.length
  | [], _, _, _ => Nat.zero_le _
  | x :: l, U, hn, h => by
    rw [List.nodup_cons] at hn
    have hx := h x List.mem_cons_self
    have := nodup_sub (l := l) (U := U.erase x) hn.2 fun y hy => (List.mem_erase_of_ne fun e : y = x => hn.1 (e ▸ hy)).2 (h y (List.mem_cons_of_mem _ hy))
    rw [List.length_erase_of_mem hx] at this
    have := List.length_pos_of_mem hx
    rw [List.length_cons]; omega
/-- what is in the set behind the first i items -/
structure Has (ks : List (Addr × List Str)) (i : Nat) (L : List (Addr × List Str)) : Prop where
  sub : ∀ p ∈ L, p ∈ ks.take i
  all : ∀ p ∈ ks.take i, p.2 ∈ L.map (·.2)
theorem Has.next {ks L L' : List (Addr × List Str)} {i : Nat} {x : Addr × List Str} (g : Has ks i L) (h : ks[i]? = some x) (c1 : x.2 ∈ L.map (·.2) → L' = L) (c2 : x.2 ∉ L.map (·.2) → L'.Perm (x :: L)) : Has ks (i + 1) L' := by
  have tk : ks.take (i + 1) = ks.take i ++ [x] := by rw [List.take_succ, h]; rfl
  by_cases c : x.2 ∈ L.map (·.2)
  · rw [c1 c]
    refine ⟨fun p hp => by rw [tk]; exact List.mem_append_left _ (g.sub p hp), fun p hp => ?_⟩
    rw [tk] at hp
    rcases List.mem_append.mp hp with z | z
    · exact g.all p z
    · rw [List.mem_singleton.mp z]; exact c
  · have pm := c2 c
    refine ⟨fun p hp => ?_, fun p hp => ?_⟩
    · rw [tk]
      rcases List.mem_cons.mp (pm.mem_iff.mp hp) with z | z
      · rw [z]; simp
      · exact List.mem_append_left _ (g.sub p z)
    · rw [(pm.map (·.2)).mem_iff, List.map_cons]
      rw [tk] at hp
      rcases List.mem_append.mp hp with z | z
      · exact List.mem_cons_of_mem _ (g.all p z)
      · rw [List.mem_singleton.mp z]; exact List.mem_cons_self
section
variable {P : Program} {w : World} {A : Around} {E : Value → Shared → Prop} {s : Shared}
theorem fill {I : Addr} {fp wr : List Addr} {G : Array GenState → Array GenState → Prop} {n : Nat} {Pv : Nat → Value → Prop} {St : Nat → Shared → Prop} {R : Result → Shared → Prop} (W : WalksS P w A.in1 I fp wr G n Pv St) {S : Addr} (sf : S ∉ fp)
    {ks : List (Addr × List Str)} (en : n = ks.length) {U : List (List Str)} (inU : ∀ p ∈ ks, p.2 ∈ U) (fewU : U.length < 64) (val : ∀ i v, Pv i v → ∃ p, ks[i]? = some p ∧ v = .ref p.1) {h0 : Heap} (tp : ∀ p ∈ ks, IsS P w h0 p.2 p.1) (s0 : h0.get? S = none) (w0 : ∀ b ∈ wr, h0.get? b = none) (hu : A.in1.units < cLine) :
    ∀ (k i : Nat) (s : Shared), n - i = k → i ≤ n → St i s → (∀ b o, h0.get? b = some o → s.heap.get? b = some o) → (∃ L es ep t, SS P w s.heap S L es ep t ∧ Has ks i L) →
      (∀ s' L es ep t, Moved (S :: wr) G s s' → SS P w s'.heap S L es ep t → Has ks n L → (∀ b o, h0.get? b = some o → s'.heap.get? b = some o) → R (.ok (.ret .none)) s') →
      codeAny (model P w) A (.builtin "set.update.loop" ⟨[.ref S, .ref I], []⟩) R s := by
  have sw : S ∉ wr := fun h => sf (W.sub _ h)
  have cons : ∀ b ∈ wr, b ∈ S :: wr := fun b hb => List.mem_cons_of_mem _ hb
  have on : ∀ {s s' : Shared}, Moved wr G s s' → (∀ b o, h0.get? b = some o → s.heap.get? b = some o) → ∀ b o, h0.get? b = some o → s'.heap.get? b = some o := fun m kp b o e =>
    m.heap b o (fun hb => by rw [w0 b hb] at e; cases e) (kp b o e)
  intro k
  induction k with
  | zero =>
    intro i s hk hi st kp ⟨L, es, ep, t, hS, g⟩ hR
    obtain rfl : i = n := by omega
    refine codeAny_builtin F.entry_set_update_loop ?_
    rw [Around.under_plainId F.plain_set_update_loop _]
    show wpAny _ A.in1 (pyNext (.ref I) >>= _) _ _ _
    refine wpAny_bind (W.done s _ _ st fun z m => ?_)
    have kp' := on m kp
    show wpAny _ A.in1 (ret Value.none) _ _ z
    exact wpAny_pure (hR z L es ep t (m.mono cons) (hS.keep (fun o e => m.heap S o sw e) fun p hp => (tp p (List.mem_of_mem_take (g.sub p hp))).keep kp') g kp')
  | succ k ih =>
    intro i s hk hi st kp ⟨L, es, ep, t, hS, g⟩ hR
    refine codeAny_builtin F.entry_set_update_loop ?_
    rw [Around.under_plainId F.plain_set_update_loop _]
    show wpAny _ A.in1 (pyNext (.ref I) >>= _) _ _ _
    refine wpAny_bind (W.item i s _ _ (by omega) st fun v z hP st' m => ?_)
    obtain ⟨p, hp, rfl⟩ := val i v hP
    have kp' := on m kp
    have hS' : SS P w z.heap S L es ep t := hS.keep (fun o e => m.heap S o sw e) fun r hr => (tp r (List.mem_of_mem_take (g.sub r hr))).keep kp'
    have xp : IsS P w z.heap p.2 p.1 := (tp p (List.mem_of_getElem? hp)).keep kp'
    show wpAny _ A.in1 (holding [Value.ref p.1] (setAdd S (.ref p.1)) >>= _) _ _ z
    refine wpAny_bind (wpAny_holding ?_)
    unfold setAdd
    refine wpAny_holding (wpAny_bind (wpAny_pyHash_tuple hu xp ?_))
    have few : p.2 ∉ L.map (·.2) → L.length + 1 < 64 := fun hn => by
      have := nodup_sub (l := p.2 :: L.map (·.2)) (U := U) (List.nodup_cons.mpr ⟨hn, hS'.dif⟩) fun y hy => by
        rcases List.mem_cons.mp hy with e | hy
        · rw [e]; exact inU p (List.mem_of_getElem? hp)
        · obtain ⟨r, hr, rfl⟩ := List.mem_map.mp hy
          exact inU r (List.mem_of_mem_take (g.sub r hr))
      rw [List.length_cons, List.length_map] at this
      omega
    refine put1 (s := { z with toks := z.toks + (p.2.length + 1) }) hS' xp hu few fun r gg L' es' ep' t' sb S2 c1 c2 => ?_
    have kp2 : ∀ b o, h0.get? b = some o → gg.get? b = some o := fun b o e => (sb.2 b (fun z => by rw [z, s0] at e; cases e)).trans (kp' b o e)
    refine wpAny_pure ⟨plainId_quiet F.plain_set_update_loop _, ih (i + 1) _ (by omega) (by omega) (W.frame _ z _ _ st' (Nat.le_add_right _ _) fun b hb o e => ?_) kp2 ⟨L', es', ep', t', S2, g.next hp c1 c2⟩ fun y L2 es2 ep2 t2 m2 S3 g3 kp3 => ?_⟩
    · rw [sb.2 b (fun h : b = S => sf (by rw [← h]; exact hb))]; exact e
    · refine hR y L2 es2 ep2 t2 (Moved.trans W.gtrans ((m.mono cons).then_heap (Nat.le_add_right _ _) fun b o hb e => ?_) m2) S3 g3 kp3
      rw [sb.2 b (fun h : b = S => hb (by rw [h]; exact List.mem_cons_self))]; exact e
def emptyT (w : World) : SetTable := .fresh 0 0 (!w.params.followText "set-order")
def emptyO (w : World) : Obj := { cls := .type "set", dict := none, data := .set #[] 0 (emptyT w) }
theorem SS.fresh {h : Heap} {a : Addr} (ho : h.get? a = some (emptyO w)) : SS P w h a [] #[] 0 (emptyT w) where
  obj := ⟨_, ho, ⟨rfl, rfl, rfl⟩, rfl⟩
  ent := rfl
  tab := ⟨List.Pairwise.nil, rfl, rfl, .inl rfl, fun x hx => (nomatch hx), fun i h j hi => (by simp at hi)⟩
  dif := List.nodup_nil
  tps := fun p hp => (nomatch hp)
  led := by
    show _ ∨ (!w.params.followText "set-order") = true
    cases w.params.followText "set-order"
    · exact .inr rfl
    · exact .inl rfl
  room := by show 0 * 5 < 7 * 3; decide
  few := by show 0 < 64; decide
end
end Lq
namespace Lq
open PySem PySem.Spec PyProof.Rows L2
/-! ### sorted(set(a list of tuples of texts)) -/
structure SetS0 (P : Program) (w : World) (h : Heap) (a : Addr) (L : List (Addr × List Str)) : Prop where
  ex : ∃ (es : Array (Int × Value)) (ep : Nat) (t : SetTable), (∃ o, h.get? a = some o ∧ o.ExactSet ∧ o.data = .set es ep t) ∧ es.toList = L.map (fun p => (kh P w p.2, Value.ref p.1)) ∧ TabOk t (L.map fun p => kh P w p.2) ∧ (L.map (·.2)).Nodup ∧
    (w.params.followText "set-order" = true ∨ t.led = true) ∧ L.length * 5 < t.mask * 3 ∧ L.length < 64
theorem SS.bare {P : Program} {w : World} {h : Heap} {a : Addr} {L : List (Addr × List Str)} {es : Array (Int × Value)} {ep : Nat} {t : SetTable} (R : SS P w h a L es ep t) : SetS0 P w h a L := ⟨es, ep, t, R.obj, R.ent, R.tab, R.dif, R.led, R.room, R.few⟩
end Lq
namespace Lq
open PySem PySem.Spec PyProof.Rows L2
/-! ### sorted(set(a list of tuples of texts)), over data -/
end Lq
namespace Lq
open PySem PySem.Spec PyProof.Rows L2
/-! ### sorted(text) -/
end Lq
namespace Lq
open PySem PySem.Spec PyProof.Rows L2
/-! ### enumerate(text) -/
/-! ### list(text) -/
end Lq
namespace Lq
open PySem PySem.Spec PyProof.Rows L2
/-! ### zip(text, list): its iterators by what they draw -/
/-! ### the walk over zip(text, list) -/
end Lq
namespace Lq
open PySem PySem.Spec PyProof.Rows L2
/-! ### a list shown with lists of the def's own in it: they are not changed any more -/
end Lq
namespace Lq
open PySem PySem.Spec PyProof.Rows L2
/-! ### defs as values -/
end Lq
namespace Lq
open PySem PySem.Spec PyProof.Rows L2
/-! ### zip(tuple, list) -/
/-! ### the walk over zip(tuple, list) -/
end Lq
namespace Lq
open PySem PySem.Spec PyProof.Rows L2
/-! ### dicts that are not changed: .obj 59 [k1, v1, k2, v2, ..], keys ints and texts -/
def kD : Key → D
  | .inl i => .int i
  | .inr s => .str s
def keyD : D → Option Key
  | .int i => some (.inl i)
  | .str s => some (.inr s)
  | _ => none
def flatD : List (Key × D) → List D
  | [] => []
  | p :: r => kD p.1 :: p.2 :: flatD r
def pairsD : List D → Option (List (Key × D))
  | [] => some []
  | [_] => none
  | k :: v :: r => match keyD k, pairsD r with
    | some a, some l => some ((a, v) :: l)
    | _, _ => none
def hasD : List (Key × D) → Key → Bool
  | [], _ => false
  | p :: r, k => decide (p.1 = k) || hasD r k
def putD (l : List (Key × D)) (k : Key) (v : D) : List (Key × D) := if hasD l k = true then l.map (fun p => if p.1 = k then (p.1, v) else p) else l ++ [(k, v)]
theorem keyD_of {d : D} {k : Key} (h : keyD d = some k) : d = kD k := by
  cases d <;> simp [keyD] at h <;> subst h <;> rfl
section
variable {K : PySem.W.Frag} {T : Tb} {S S' H : Hp}
def DKV (K : PySem.W.Frag) (T : Tb) (S : Hp) : List (Key × D) → List (Key × V) → Prop := Paired fun (p : Key × D) (q : Key × V) => p.1 = q.1 ∧ Rp K T S p.2 q.2
theorem DKV.mono {l : List (Key × D)} {kvs : List (Key × V)} (e : Same S S') (h : DKV K T S l kvs) : DKV K T S' l kvs := Paired.mapP h fun _ _ z => ⟨z.1, Rp.mono e _ _ z.2⟩
theorem DKV.len {l : List (Key × D)} {kvs : List (Key × V)} (h : DKV K T S l kvs) : l.length = kvs.length := Paired.length h
theorem rp_key {k : Key} {v : V} (h : Rp K T S (kD k) v) : v = L2.kV k := by cases k <;> exact h
theorem key_rp (k : Key) : Rp K T S (kD k) (L2.kV k) := by cases k <;> rfl
theorem DKV.of : ∀ {fs : List D} {l : List (Key × D)} {kvs : List (Key × V)}, Rps K T S fs (flatKV kvs) → pairsD fs = some l → DKV K T S l kvs
  | [], l, kvs, r, h => by
    cases h
    cases kvs with
    | nil => exact .nil
    | cons p q => exact nomatch (show flatKV (p :: q) = [] from r)
  | [_], _, _, _, h => by cases h
  | k :: v :: fs, l, kvs, r, h => by
    rw [pairsD] at h
    split at h
    · rename_i a m q1 q2
      cases h
      obtain ⟨u, r1, e1, h1, u2, r2, e2, h2, h3⟩ := r
      cases kvs with
      | nil => cases e1
      | cons p q =>
        rw [flatKV] at e1
        cases e1
        cases e2
        rw [keyD_of q1] at h1
        exact .cons ⟨(L2.kV_inj (rp_key h1)).symm, h2⟩ (DKV.of h3 q2)
    · cases h
theorem DKV.flat : ∀ {l : List (Key × D)} {kvs : List (Key × V)}, DKV K T S l kvs → Rps K T S (flatD l) (flatKV kvs)
  | _, _, .nil => rfl
  | _, _, .cons (a := p) (b := q) h t => ⟨_, _, rfl, by rw [h.1]; exact key_rp _, _, _, rfl, h.2, DKV.flat t⟩
theorem _root_.L2.DGet.f {H : Hp} {a : Addr} {o : Obj} {kvs : List (Key × V)} {k : Key} (e : H a = some (.frz o (.dK kvs))) : DGet H a (L2.kV k) (valV kvs k) := .inl ⟨kvs, k, .inr ⟨o, e⟩, rfl, rfl⟩
theorem DKV.has {k : Key} : ∀ {l : List (Key × D)} {kvs : List (Key × V)}, DKV K T S l kvs → hasD l k = (kvs.any fun kv => decide (kv.1 = k))
  | _, _, .nil => rfl
  | _, _, .cons (a := p) (b := q) h t => by rw [hasD, List.any_cons, h.1, DKV.has t]
theorem DKV.put {l : List (Key × D)} {kvs : List (Key × V)} {k : Key} {d : D} {v : V} (h : DKV K T S l kvs) (r : Rp K T S d v) : DKV K T S (putD l k d) (putK kvs k v) := by
  unfold putD putK
  rw [h.has]
  by_cases hb : (kvs.any fun kv => decide (kv.1 = k)) = true
  · rw [if_pos hb, if_pos hb]
    clear hb
    unfold DKV at h ⊢
    induction h with
    | nil => exact .nil
    | @cons p q ps qs h t ih =>
      rw [List.map_cons, List.map_cons]
      refine .cons ?_ ih
      by_cases e : p.1 = k
      · rw [if_pos e, if_pos (h.1.symm.trans e)]; exact ⟨h.1, r⟩
      · rw [if_neg e, if_neg (fun z => e (h.1.trans z))]; exact h
  · rw [if_neg hb, if_neg hb]
    exact Paired.snoc h ⟨rfl, r⟩
end
/-! #### d[k], k in d, k not in d -/
/-! #### dict(a list of pairs) -/
/-! #### stepwise -/
end Lq
namespace Lq
open PySem PySem.Spec PyProof.Rows L2
/-! ### range(i, j, -1) -/
end Lq
namespace Lq
open PySem PySem.Spec PyProof.Rows L2
/-! ### tuples whose object is known: .obj 58 items -/
end Lq
namespace Lq
open PySem PySem.Spec PyProof.Rows L2
/-! ### x == [], x a list of anything -/
end Lq
/-! ### x in l, the first item of l equal to x by its class's own == -/
namespace PySem.SeqAt
open AutoSeq1 (wpAny_loadPart')
open MeetsSeq MeetsSeq2 MeetsSeq3 SeqRoads2
end PySem.SeqAt
namespace Lq
open PySem PySem.Spec PyProof.Rows L2
end Lq
namespace Lq
open PySem PySem.Spec PyProof.Rows L2
/-! ### l.count(x), the items data of any depth -/
/-! the same with the list of a slot -/
end Lq
namespace Lq
open PySem PySem.Spec PyProof.Rows L2
/-! ### the walk over zip(list, tuple) -/
end Lq
namespace Lq
open PySem PySem.Spec PyProof.Rows L2
/-! ### dicts walked: the keys, the values, the pairs -/
section
variable {K : PySem.W.Frag} {T : Tb} {S : Hp}
theorem DKV.at {k : Key} {d : D} {l : List (Key × D)} {kvs : List (Key × V)} (h : DKV K T S l kvs) {i : Nat} (hi : l[i]? = some (k, d)) : ∃ v, kvs[i]? = some (k, v) ∧ Rp K T S d v := by
  unfold DKV at h
  induction h generalizing i with
  | nil => cases hi
  | @cons p q ps qs h t ih =>
    cases i with
    | zero =>
      simp only [List.getElem?_cons_zero, Option.some.injEq] at hi ⊢
      subst hi
      exact ⟨q.2, by obtain ⟨q1, q2⟩ := q; obtain ⟨e, _⟩ := h; simp only at e; subst e; rfl, h.2⟩
    | succ i =>
      simp only [List.getElem?_cons_succ] at hi ⊢
      exact ih hi
end
end Lq
namespace Lq
open PySem PySem.Spec PyProof.Rows L2
/-! ### a text once and more -/
end Lq
namespace Lq
open PySem PySem.Spec PyProof.Rows L2
/-! ### text.index(text) where it is found -/
/-! ### a new list of two new lists, whose rows are changed one by one -/
def G3 (G : Hp) (a q0 q1 : Addr) (vs0 vs1 : List V) : Hp := upd (upd (upd G a (.lst [.ref q0, .ref q1])) q0 (.lst vs0)) q1 (.lst vs1)
structure Gr (G : Hp) (a q0 q1 : Addr) : Prop where
  ga : G a = none
  g0 : G q0 = none
  g1 : G q1 = none
  d0 : a ≠ q0
  d1 : a ≠ q1
  d2 : q0 ≠ q1
section
variable {K : PySem.W.Frag} {T : Tb} {W : WX} {β : Bt} {G S S' H : Hp} {σ : L2.St} {ρ : Rho}
theorem Ok.ungd {a q0 q1 : Addr} {vs0 vs1 : List V} (o : Ok K T β (G3 G a q0 q1 vs0 vs1) S σ ρ H) (g : Gr G a q0 q1) : Ok K T β G S σ ρ H ∧ Fre β G S σ ρ a ∧ Fre β G S σ ρ q0 ∧ Fre β G S σ ρ q1 ∧ H a = some (.lst [.ref q0, .ref q1]) ∧ H q0 = some (.lst vs0) ∧ H q1 = some (.lst vs1) := by
  obtain ⟨o1, f1, h1⟩ := o.unguard (by rw [upd_ne (Ne.symm g.d2), upd_ne (Ne.symm g.d1)]; exact g.g1)
  obtain ⟨o2, f0, h0⟩ := o1.unguard (by rw [upd_ne (Ne.symm g.d0)]; exact g.g0)
  obtain ⟨o3, fa, ha⟩ := o2.unguard g.ga
  exact ⟨o3, fa, ⟨f0.s, g.g0, f0.b, f0.sl, f0.sk, f0.skt⟩, ⟨f1.s, g.g1, f1.b, f1.sl, f1.sk, f1.skt⟩, ha, h0, h1⟩
/-- where the rows lie -/
def Gd (K : PySem.W.Frag) (T : Tb) (β : Bt) (G S : Hp) (σ : L2.St) (ρ : Rho) (H : Hp) (i : Nat) (xs0 xs1 : List D) : Prop :=
  ∃ a q0 q1 vs0 vs1, σ[i]? = some (some (.ref a)) ∧ Gr G a q0 q1 ∧ Rps K T S xs0 vs0 ∧ Rps K T S xs1 vs1 ∧ Ok K T β (G3 G a q0 q1 vs0 vs1) S σ ρ H
theorem Gd.done {i : Nat} {xs0 xs1 : List D} (h : Gd K T β G S σ ρ H i xs0 xs1) : ∃ S2, Same S S2 ∧ Ok K T β G S2 σ (ρ.set i (.d (.lst [.lst xs0, .lst xs1]))) H := by
  obtain ⟨a, q0, q1, vs0, vs1, hs, g, r0, r1, o⟩ := h
  obtain ⟨o, fa, f0, f1, ha, h0, h1⟩ := o.ungd g
  have o1 := o.freeze f0 h0
  have o2 := o1.freeze (f1.ext (H' := H) (S' := upd S q0 (.lst vs0)) (by rw [upd_ne (Ne.symm g.d2)]; exact f1.s)) h1
  have sa : upd (upd S q0 (.lst vs0)) q1 (.lst vs1) a = none := by rw [upd_ne g.d1, upd_ne g.d0]; exact fa.s
  have o3 := o2.freeze (fa.ext (H' := H) (S' := upd (upd S q0 (.lst vs0)) q1 (.lst vs1)) sa) ha
  have e1 : Same S (upd S q0 (.lst vs0)) := same_new f0.s
  have e2 : Same (upd S q0 (.lst vs0)) (upd (upd S q0 (.lst vs0)) q1 (.lst vs1)) := same_new (by rw [upd_ne (Ne.symm g.d2)]; exact f1.s)
  have e3 : Same (upd (upd S q0 (.lst vs0)) q1 (.lst vs1)) (upd (upd (upd S q0 (.lst vs0)) q1 (.lst vs1)) a (.lst [.ref q0, .ref q1])) := same_new sa
  have e := (e1.trans e2).trans e3
  refine ⟨_, e, ?_⟩
  have hr : Rp K T (upd (upd (upd S q0 (.lst vs0)) q1 (.lst vs1)) a (.lst [.ref q0, .ref q1])) (.lst [.lst xs0, .lst xs1]) (.ref a) :=
    ⟨a, [.ref q0, .ref q1], rfl, upd_same, .ref q0, [.ref q1], rfl, ⟨q0, vs0, rfl, by rw [upd_ne (Ne.symm g.d0), upd_ne g.d2, upd_same], Rps.mono e _ _ r0⟩, .ref q1, [], rfl, ⟨q1, vs1, rfl, by rw [upd_ne (Ne.symm g.d1), upd_same], Rps.mono e _ _ r1⟩, rfl⟩
  have o4 := o3.setD (i := i) hr
  have es : σ.set i (some (.ref a)) = σ := by
    apply List.ext_getElem?
    intro j
    by_cases hj : j = i
    · subst hj
      rw [hs]
      have hl : j < σ.length := (List.getElem?_eq_some_iff.mp hs).1
      exact List.getElem?_set_self hl
    · rw [List.getElem?_set_ne (Ne.symm hj)]
  rw [es] at o4
  exact o4
end
/-! statements that leave a name alone; statements beside the rows -/
abbrev Rw := List D × List D
end Lq
namespace Lq
open PySem PySem.Spec PyProof.Rows L2
section
variable {X : Cx} {T : Tb} {W : WX} {a b e e2 : Expr} {es : List Expr} {fa fb : Rho → R VD} {fs : Rho → R (List VD)} {pos : Pos} {st st0 st1 : Stmt} {sts : List Stmt} {i : Nat}
/-! targets that leave a name alone -/
/-! the loop beside the rows -/
theorem Gd.ext {K : PySem.W.Frag} {β : Bt} {G S S' H H' : Hp} {σ : L2.St} {ρ : Rho} {xs ys : List D} (h : Gd K T β G S σ ρ H i xs ys) (e : Ext T S H S' H') : Gd K T β G S' σ ρ H' i xs ys := by
  obtain ⟨a, q0, q1, vs0, vs1, hs, g, r0, r1, o⟩ := h
  exact ⟨a, q0, q1, vs0, vs1, hs, g, Rps.mono e.s _ _ r0, Rps.mono e.s _ _ r1, o.ext e⟩
def PostW (K : PySem.W.Frag) (T : Tb) (i : Nat) (β : Bt) (G S : Hp) (r : Option (Rho × Rw)) (De : Ends) : Prop := match r with
  | some q => ∀ S' σ' H', Same S S' → Gd K T β G S' σ' q.1 H' i q.2.1 q.2.2 → De.nx σ' H'
  | none => False
theorem PostW.mono {K : PySem.W.Frag} {β : Bt} {G S S' : Hp} {De : Ends} {r : Option (Rho × Rw)} (h : PostW K T i β G S r De) (e : Same S S') : PostW K T i β G S' r De := by
  cases r with
  | none => exact h
  | some q => exact fun S2 σ2 H2 e2 hd => h S2 σ2 H2 (e.trans e2) hd
/-! the rows are made -/
def r0 (K : PySem.W.Frag) (T : Tb) (i : Nat) (f : Rho → Option Rho) : TS := fun De σ H => ∃ β G S ρ, Ok K T β G S σ ρ H ∧ match f ρ with
  | some ρ' => ∀ S' σ' H', Same S S' → Gd K T β G S' σ' ρ' H' i [] [] → De.nx σ' H'
  | none => False
end
end Lq
namespace Lq
open PySem PySem.Spec PyProof.Rows L2
/-! ### tuple(range(a, b)) -/
end Lq
namespace Lq
open PySem PySem.Spec PyProof.Rows L2
/-! ### zip(text, tuple, tuple) -/
/-! ### the walk over zip(text, tuple, tuple) -/
end Lq
namespace Lq
open PySem PySem.Spec PyProof.Rows L2
/-! ### what is kept of nested known tuples, as plain tuples -/
/-! ### dict(a known tuple of pairs) -/
end Lq
namespace Lq
open PySem PySem.Spec PyProof.Rows L2
/-! ### sorted(xs), xs a list of tuples of numbers and texts, all of one shape -/
/-! .. over data -/
/-! ### zip of two, lists or tuples as they come -/
end Lq
namespace Lq
open PySem PySem.Spec PyProof.Rows L2
/-! ### len(set(a list of tuples of texts)) -/
end Lq
namespace Lq
open PySem PySem.Spec PyProof.Rows L2
/-! ### x = {k: e, ..}; x[k] = e: a new dict, changed once, then locked for good -/
/-! #### stepwise -/
end Lq
namespace Lq
open PySem PySem.Spec PyProof.Rows L2
/-! ### an error out of a list comprehension's element -/
end Lq
namespace Lq
open PySem PySem.Spec PyProof.Rows L2
end Lq
namespace Lq
open PySem PySem.Spec PyProof.Rows L2
/-! ### list comprehensions whose element may let an error out -/
/-! #### stepwise -/
end Lq
namespace Lq
open PySem PySem.Spec PyProof.Rows L2
/-! ### x is not True, x is not False -/
end Lq
namespace Lq
open PySem PySem.Spec PyProof.Rows L2
/-! ### sets of pairs of tuples of texts: one table, searched and filled (printed by mkq78.py from Q48) -/
namespace P2
abbrev PK := List Str × List Str
/-- by choice, so that nothing unfolds it -/
theorem khP_ex (P : Program) (w : World) : ∃ f : PK → Int, ∀ k, f k = reduceHash (Builtin.Tuple.tupleHashOf [kh P w k.1, kh P w k.2]) := ⟨_, fun _ => rfl⟩
noncomputable def khP (P : Program) (w : World) : PK → Int := Classical.choose (khP_ex P w)
theorem khP_eq (P : Program) (w : World) (k : PK) : khP P w k = reduceHash (Builtin.Tuple.tupleHashOf [kh P w k.1, kh P w k.2]) := Classical.choose_spec (khP_ex P w) k
def IsP (P : Program) (w : World) (h : Heap) (k : PK) (b : Addr) : Prop := ∃ o t1 t2 n, h.get? b = some o ∧ o.cls = .type "tuple" ∧ o.data = .seq #[.ref t1, .ref t2] n ∧ IsS P w h k.1 t1 ∧ IsS P w h k.2 t2
section
variable {P : Program} {w : World} {A : Around} {E : Value → Shared → Prop} {s : Shared}
theorem IsP.typeIs {k : PK} {b : Addr} (x : IsP P w s.heap k b) : s.TypeIs (.ref b) "tuple" := let ⟨o, _, _, _, ho, hc, _⟩ := x; ⟨o, ho, hc⟩
theorem noClass_in {m : Nat} {k : List Str} {b : Addr} {Q : Bool → Shared → Prop} (x : IsS P w s.heap k b) (h : Q false s) : wpAny (model P w) A (ofAClassStatement (m + 1) (.ref b)) Q E s := by
  have ty := IsTupleKey.typeIs x
  obtain ⟨o, items, n, eo, _, ed, ei⟩ := x
  unfold ofAClassStatement
  refine wpAny_bind (wpAny_typeOf ty ?_)
  have e0 : (("tuple" : String) == "tuple") = true := by decide
  simp only [e0, if_true, Bool.not_true, Bool.false_eq_true, if_false]
  refine wpAny_bind (wpAny_pure ?_)
  simp only [Bool.not_true, Bool.false_eq_true, if_false]
  show wpAny _ _ (seqItems? (.ref b) >>= _) _ _ s
  refine wpAny_bind (wpAny_seqItems eo ed ?_)
  dsimp only
  refine wpAny_bind (each_str (strs_of ei) (fun z t r hr => ?_) fun r hr => ?_)
  · rw [noClass_str]
    obtain ⟨r1, r2⟩ := r
    simp only at hr
    subst hr
    rfl
  · obtain ⟨r1, r2⟩ := r
    simp only at hr
    subst hr
    exact wpAny_pure h
theorem noClass_pair {k : PK} {b : Addr} {Q : Bool → Shared → Prop} (x : IsP P w s.heap k b) (h : Q false s) : wpAny (model P w) A (ofAClassStatement 8 (.ref b)) Q E s := by
  have ty := x.typeIs
  obtain ⟨o, t1, t2, n, eo, _, ed, x1, x2⟩ := x
  unfold ofAClassStatement
  refine wpAny_bind (wpAny_typeOf ty ?_)
  have e0 : (("tuple" : String) == "tuple") = true := by decide
  simp only [e0, if_true, Bool.not_true, Bool.false_eq_true, if_false]
  refine wpAny_bind (wpAny_pure ?_)
  simp only [Bool.not_true, Bool.false_eq_true, if_false]
  show wpAny _ _ (seqItems? (.ref b) >>= _) _ _ s
  refine wpAny_bind (wpAny_seqItems eo ed ?_)
  dsimp only
  refine wpAny_bind ?_
  rw [← Array.forIn_toList]
  show wpAny _ _ (forIn [Value.ref t1, Value.ref t2] _ _) _ _ s
  rw [List.forIn_cons]
  refine wpAny_bind (wpAny_bind (noClass_in x1 ?_))
  simp only [Bool.false_eq_true, if_false]
  refine wpAny_pure ?_
  dsimp only
  rw [List.forIn_cons]
  refine wpAny_bind (wpAny_bind (noClass_in x2 ?_))
  simp only [Bool.false_eq_true, if_false]
  refine wpAny_pure ?_
  dsimp only
  rw [List.forIn_nil]
  exact wpAny_pure (wpAny_pure h)
theorem quiet_in {m : Nat} {k : List Str} {b : Addr} {Q : Bool → Shared → Prop} (x : IsS P w s.heap k b) (h : Q true s) : wpAny (model P w) A (eqIsQuiet (m + 1) (.ref b)) Q E s := by
  have hT := IsTupleKey.typeIs x
  obtain ⟨o, items, n, ho, _, hd, hi⟩ := x
  unfold eqIsQuiet
  refine wpAny_bind (wpAny_specialOf hT F.slot_tuple_eq.lookup ?_)
  show wpAny _ _ (isInstance (.ref b) (.type "tuple") >>= _) _ _ s
  refine wpAny_bind (wpAny_isInstance hT isSubtype_tuple_tuple ?_)
  simp only [Bool.not_true, Bool.false_eq_true, if_false]
  refine wpAny_bind (wpAny_seqItems ho hd ?_)
  refine wpAny_bind ?_
  show wpAny _ _ (forIn items _ _) _ _ s
  rw [← Array.forIn_toList]
  refine wpAny_forIn_list _ (fun rest r s' => r.1 = none ∧ s' = s ∧ ∀ v ∈ rest, carriedByValue v = true) _ ?_ ?_ _ _ ⟨rfl, rfl, hi.byValue⟩
  · rintro v rest r s' ⟨hr, rfl, hall⟩
    rw [eqIsQuiet_byValue _ (hall v List.mem_cons_self)]
    refine wpAny_bind (wpAny_pure ?_)
    simp only [Bool.not_true, Bool.false_eq_true, if_false]
    exact wpAny_pure ⟨rfl, rfl, fun u hu' => hall u (List.mem_cons_of_mem _ hu')⟩
  · rintro ⟨r1, r2⟩ s' ⟨hr, rfl, _⟩
    simp only at hr
    subst hr
    exact wpAny_pure h
theorem quiet_pair {k : PK} {b : Addr} {Q : Bool → Shared → Prop} (x : IsP P w s.heap k b) (h : Q true s) : wpAny (model P w) A (eqIsQuiet 8 (.ref b)) Q E s := by
  have hT := x.typeIs
  obtain ⟨o, t1, t2, n, eo, _, ed, x1, x2⟩ := x
  unfold eqIsQuiet
  refine wpAny_bind (wpAny_specialOf hT F.slot_tuple_eq.lookup ?_)
  show wpAny _ _ (isInstance (.ref b) (.type "tuple") >>= _) _ _ s
  refine wpAny_bind (wpAny_isInstance hT isSubtype_tuple_tuple ?_)
  simp only [Bool.not_true, Bool.false_eq_true, if_false]
  refine wpAny_bind (wpAny_seqItems eo ed ?_)
  refine wpAny_bind ?_
  show wpAny _ _ (forIn (#[Value.ref t1, Value.ref t2] : Array Value) _ _) _ _ s
  rw [← Array.forIn_toList]
  show wpAny _ _ (forIn [Value.ref t1, Value.ref t2] _ _) _ _ s
  rw [List.forIn_cons]
  refine wpAny_bind (wpAny_bind (quiet_in x1 ?_))
  simp only [Bool.not_true, Bool.false_eq_true, if_false]
  refine wpAny_pure ?_
  dsimp only
  rw [List.forIn_cons]
  refine wpAny_bind (wpAny_bind (quiet_in x2 ?_))
  simp only [Bool.not_true, Bool.false_eq_true, if_false]
  refine wpAny_pure ?_
  dsimp only
  rw [List.forIn_nil]
  exact wpAny_pure (wpAny_pure h)
theorem hashBy_in {m : Nat} {k : List Str} {b : Addr} {Q : Bool → Shared → Prop} (x : IsS P w s.heap k b) (h : ∀ r, Q r s) : wpAny (model P w) A (hashByValue (m + 1) (.ref b)) Q E s := by
  have ty := IsTupleKey.typeIs x
  obtain ⟨o, items, n, eo, _, ed, ei⟩ := x
  unfold hashByValue
  refine wpAny_bind (wpAny_specialOf ty F.slot_tuple_hash.lookup ?_)
  show wpAny _ _ (seqItems? (.ref b) >>= _) _ _ s
  refine wpAny_bind (wpAny_seqItems eo ed ?_)
  refine wpAny_bind ?_
  show wpAny _ _ (forIn items _ _) _ _ s
  rw [← Array.forIn_toList]
  cases hl : items.toList with
  | nil => exact wpAny_pure (wpAny_pure (h _))
  | cons v l =>
    obtain ⟨z, t, rfl⟩ := strs_of ei v (by rw [hl]; exact List.mem_cons_self)
    rw [List.forIn_cons, hash_str]
    refine wpAny_bind (wpAny_bind (wpAny_pure ?_))
    simp only [Bool.not_false, if_true]
    exact wpAny_pure (wpAny_pure (wpAny_pure (h _)))
theorem hashBy_pair {k : PK} {b : Addr} {Q : Bool → Shared → Prop} (x : IsP P w s.heap k b) (h : ∀ r, Q r s) : wpAny (model P w) A (hashByValue 8 (.ref b)) Q E s := by
  have ty := x.typeIs
  obtain ⟨o, t1, t2, n, eo, _, ed, x1, x2⟩ := x
  unfold hashByValue
  refine wpAny_bind (wpAny_specialOf ty F.slot_tuple_hash.lookup ?_)
  show wpAny _ _ (seqItems? (.ref b) >>= _) _ _ s
  refine wpAny_bind (wpAny_seqItems eo ed ?_)
  refine wpAny_bind ?_
  show wpAny _ _ (forIn (#[Value.ref t1, Value.ref t2] : Array Value) _ _) _ _ s
  rw [← Array.forIn_toList]
  show wpAny _ _ (forIn [Value.ref t1, Value.ref t2] _ _) _ _ s
  rw [List.forIn_cons]
  refine wpAny_bind (wpAny_bind (hashBy_in x1 fun r => ?_))
  cases r with
  | false =>
    simp only [Bool.not_false, if_true]
    exact wpAny_pure (wpAny_pure (wpAny_pure (h _)))
  | true =>
    simp only [Bool.not_true, Bool.false_eq_true, if_false]
    refine wpAny_pure ?_
    dsimp only
    rw [List.forIn_cons]
    refine wpAny_bind (wpAny_bind (hashBy_in x2 fun r => ?_))
    cases r with
    | false =>
      simp only [Bool.not_false, if_true]
      exact wpAny_pure (wpAny_pure (wpAny_pure (h _)))
    | true =>
      simp only [Bool.not_true, Bool.false_eq_true, if_false]
      refine wpAny_pure ?_
      dsimp only
      rw [List.forIn_nil]
      exact wpAny_pure (wpAny_pure (h _))
theorem quiet_pairs {k : PK} {b : Addr} {Q : Bool → Shared → Prop} (x : IsP P w s.heap k b) (h : Q false s) : ∀ {ys : List Value}, (∀ y ∈ ys, ∃ k' c, y = Value.ref c ∧ IsP P w s.heap k' c) → wpAny (model P w) A (searchCouldBeSeen (.ref b) ys) Q E s := by
  intro ys hy
  unfold searchCouldBeSeen
  refine wpAny_bind (wpAny_forIn_list _ (fun rest (r : Option Bool × PUnit) z => r.1 = none ∧ z = s ∧ ∀ y ∈ rest, ∃ k' c, y = Value.ref c ∧ IsP P w s.heap k' c) _ ?_ ?_ _ _ ⟨rfl, rfl, hy⟩)
  · rintro v rest r z ⟨hr, rfl, all⟩
    obtain ⟨k', c, rfl, xc⟩ := all v List.mem_cons_self
    have more := fun u (hu : u ∈ rest) => all u (List.mem_cons_of_mem _ hu)
    dsimp only
    by_cases hv : (b == c || (carriedByValue (.ref b) && carriedByValue (.ref c))) = true
    · exact wp_if_pos hv (wpAny_pure ⟨rfl, rfl, more⟩)
    · refine wp_if_neg hv (wpAny_bind (quiet_pair x ?_))
      simp only [Bool.not_true, Bool.false_eq_true, if_false]
      refine wpAny_bind (quiet_pair xc ?_)
      simp only [Bool.not_true, Bool.false_eq_true, if_false]
      refine wpAny_bind (noClass_pair x ?_)
      simp only [Bool.false_eq_true, if_false]
      refine wpAny_bind (noClass_pair xc ?_)
      simp only [Bool.false_eq_true, if_false]
      exact wpAny_pure ⟨rfl, rfl, more⟩
  · rintro ⟨r1, r2⟩ z ⟨hr, rfl, _⟩
    simp only at hr
    subst hr
    exact wpAny_pure h
theorem IsP.inj {h : Heap} {a : Addr} {x y : PK} (hx : IsP P w h x a) (hy : IsP P w h y a) : x = y := by
  obtain ⟨o, t1, t2, n, eo, _, ed, x1, x2⟩ := hx
  obtain ⟨o', u1, u2, m, eo', _, ed', y1, y2⟩ := hy
  obtain rfl : o = o' := Option.some.inj (eo.symm.trans eo')
  rw [ed] at ed'
  injection ed' with h1 _
  have h2 : [Value.ref t1, Value.ref t2] = [Value.ref u1, Value.ref u2] := congrArg Array.toList h1
  injection h2 with h3 h4
  injection h4 with h5 _
  injection h3 with h3
  injection h5 with h5
  subst h3 h5
  exact Prod.ext (IsTupleKey.inj x1 y1) (IsTupleKey.inj x2 y2)
theorem pyHash_pair {k : PK} {a : Addr} {Q : Int → Shared → Prop} (hu : A.units + 4 < cLine) (hk : IsP P w s.heap k a) (h : ∀ tk, s.toks ≤ tk → Q (khP P w k) { s with toks := tk }) : wpAny (model P w) A (pyHash (.ref a)) Q E s := by
  have hT := hk.typeIs
  obtain ⟨o, t1, t2, n, ho, _, hd, x1, x2⟩ := hk
  unfold pyHash
  first | unfold pyHashByItsType | skip
  first | refine wpAny_bind (wpAny_cRoomFor_or (.inr (by omega)) ?_) | skip
  refine wpAny_bind (wpAny_specialOf hT F.slot_tuple_hash.lookup ?_)
  show wpAny _ _ (if (some (Value.builtin "tuple.__hash__") == some Value.none) = true then _ else _) Q E s
  rw [if_neg (by rw [beq_builtin_none]; exact Bool.false_ne_true)]
  refine wpAny_bind (wpAny_specialOf hT F.slot_tuple_hash.lookup ?_)
  show wpAny _ _ (callSpecialIfBoundUnlessNone? (.ref a) "__hash__" _ >>= _) Q E s
  refine wpAny_bind (wpAny_callSpecialIfBoundUnlessNone?_slot hT F.slot_tuple_hash (wpAny_call_entry F.slot_tuple_hash hT F.entry_tuple_hash ?_ (F.args_tuple_hash_1 _)))
  show wpAny _ _ (Builtin.Tuple.tupleItemsOf (.ref a) >>= _) _ _ s
  refine wpAny_bind (wpAny_tupleItemsOf ho hd ?_)
  refine wpAny_bind ?_
  rw [← Array.forIn_toList]
  show wpAny _ _ (forIn [Value.ref t1, Value.ref t2] _ _) _ _ s
  have u1 : A.in1.units < cLine := by show A.units + 1 < cLine; omega
  rw [List.forIn_cons]
  refine wpAny_bind (wpAny_bind (wpAny_pyHash_tuple u1 x1 ?_))
  first
    | refine wpAny_pure ?_
    | refine wpAny_bind (wpAny_pure (wpAny_pure ?_))
  dsimp only
  rw [List.forIn_cons]
  refine wpAny_bind (wpAny_bind (wpAny_pyHash_tuple u1 x2 ?_))
  first
    | refine wpAny_pure ?_
    | refine wpAny_bind (wpAny_pure (wpAny_pure ?_))
  dsimp only
  rw [List.forIn_nil]
  refine wpAny_pure ?_
  show wpAny _ _ (retInt (Builtin.Tuple.tupleHashOf [kh P w k.1, kh P w k.2])) _ _ _
  refine wpAny_ret_mkInt ?_
  show wpAny _ _ (if (decide (-(2 : Int) ^ 63 ≤ Builtin.Tuple.tupleHashOf [kh P w k.1, kh P w k.2]) && decide (Builtin.Tuple.tupleHashOf [kh P w k.1, kh P w k.2] < 2 ^ 63)) = true then _ else _) Q E _
  rw [khP_eq] at h
  unfold reduceHash at h
  by_cases hr : (decide (-(2 : Int) ^ 63 ≤ Builtin.Tuple.tupleHashOf [kh P w k.1, kh P w k.2]) && decide (Builtin.Tuple.tupleHashOf [kh P w k.1, kh P w k.2] < 2 ^ 63)) = true
  · rw [if_pos hr]
    rw [if_pos hr] at h
    exact wpAny_pure (h _ (by dsimp only; omega))
  · rw [if_neg hr]
    rw [if_neg hr] at h
    exact wpAny_bind (wpAny_rule (wpAny_pure (h _ (by dsimp only; omega))))
theorem eq_pair_tree {x y : PK} {a b : Addr} {Z : Fin → Shared → Prop} (hu : A.units + 1 < cLine) (hx : IsP P w s.heap x a) (hy : IsP P w s.heap y b) (h : Z (.done (.ret (.bool (decide (x = y))))) s) :
    wpAny (model P w) A (Builtin.«tuple.__eq__» ⟨[.ref a, .ref b], []⟩) Z E s := by
  have hTb := hy.typeIs
  obtain ⟨oa, a1, a2, na, hoa, _, hda, x1, x2⟩ := hx
  obtain ⟨ob, b1, b2, nb, hob, _, hdb, y1, y2⟩ := hy
  show wpAny _ _ (isInstance (.ref b) (.type "tuple") >>= _) _ _ s
  refine wpAny_bind (wpAny_isInstance hTb isSubtype_tuple_tuple ?_)
  simp only [Bool.not_true, Bool.false_eq_true, if_false]
  refine wpAny_bind (wpAny_tupleItemsOf hoa hda ?_)
  refine wpAny_bind (wpAny_tupleItemsOf hob hdb ?_)
  refine wpAny_bind ?_
  have hu' : A.units < cLine := by omega
  show wpAny _ _ (forIn [(Value.ref a1, Value.ref b1), (Value.ref a2, Value.ref b2)] _ _) _ _ s
  rw [List.forIn_cons]
  refine wpAny_bind (wpAny_bind (wpAny_eqBool_tuple (x := x.1) (y := y.1) hu' x1 y1 ?_))
  by_cases h1 : x.1 = y.1
  · rw [decide_eq_true h1]
    simp only [Bool.not_true, Bool.false_eq_true, if_false]
    refine wpAny_pure ?_
    dsimp only
    rw [List.forIn_cons]
    refine wpAny_bind (wpAny_bind (wpAny_eqBool_tuple (x := x.2) (y := y.2) hu' x2 y2 ?_))
    by_cases h2 : x.2 = y.2
    · rw [decide_eq_true h2]
      simp only [Bool.not_true, Bool.false_eq_true, if_false]
      refine wpAny_pure ?_
      dsimp only
      rw [List.forIn_nil]
      refine wpAny_pure ?_
      have e : x = y := Prod.ext h1 h2
      rw [decide_eq_true e] at h
      exact wpAny_pure h
    · rw [decide_eq_false h2]
      simp only [Bool.not_false, if_true]
      have e : ¬ x = y := fun z => h2 (by rw [z])
      rw [decide_eq_false e] at h
      exact wpAny_bind (wpAny_pure (wpAny_pure (wpAny_pure (wpAny_pure h))))
  · rw [decide_eq_false h1]
    simp only [Bool.not_false, if_true]
    have e : ¬ x = y := fun z => h1 (by rw [z])
    rw [decide_eq_false e] at h
    exact wpAny_bind (wpAny_pure (wpAny_pure (wpAny_pure (wpAny_pure h))))
theorem eqBool_pair {x y : PK} {a b : Addr} {Q : Bool → Shared → Prop} (hu : A.units + 4 < cLine) (hx : IsP P w s.heap x a) (hy : IsP P w s.heap y b) (h : Q (decide (x = y)) s) :
    wpAny (model P w) A (eqBool (.ref a) (.ref b)) Q E s := by
  unfold eqBool
  try with_reducible refine wpAny_holding ?_
  show wpAny _ _ (if (Value.ref a == Value.ref b) = true then _ else _) Q E s
  by_cases hab : (Value.ref a == Value.ref b) = true
  · rw [if_pos hab]
    have e : a = b := by have := eq_of_beq hab; injection this
    subst e
    obtain rfl := hx.inj hy
    exact wpAny_bind (wpAny_rule (wpAny_pure (by simpa using h)))
  · rw [if_neg hab]
    exact wpAny_bind (wpAny_richCompare_same_room (op := .Eq) hx.typeIs hy.typeIs F.slot_tuple_eq
      (wpAny_call_entry F.slot_tuple_eq hx.typeIs F.entry_tuple_eq (eq_pair_tree (by show A.units + 1 + 1 < cLine; omega) hx hy ⟨_, rfl, (fun e => nomatch e), wpAny_truthy_bool h⟩) (F.args_tuple_eq_2 _ _)) (by omega))
end
section
variable {P : Program} {w : World} {A : Around} {E : Value → Shared → Prop} {s : Shared}
/-- the set at a holds the tuples L, in the order of its table -/
structure SS (P : Program) (w : World) (h : Heap) (a : Addr) (L : List (Addr × PK)) (es : Array (Int × Value)) (ep : Nat) (t : SetTable) : Prop where
  obj : ∃ o, h.get? a = some o ∧ o.ExactSet ∧ o.data = .set es ep t
  ent : es.toList = L.map fun p => (khP P w p.2, Value.ref p.1)
  tab : TabOk t (L.map fun p => khP P w p.2)
  dif : (L.map (·.2)).Nodup
  tps : ∀ p ∈ L, IsP P w h p.2 p.1
  led : w.params.followText "set-order" = true ∨ t.led = true
  room : L.length * 5 < t.mask * 3
  few : L.length < 64
variable {a : Addr} {L : List (Addr × PK)} {es : Array (Int × Value)} {ep : Nat} {t : SetTable}
theorem SS.len (R : SS P w s.heap a L es ep t) : es.size = L.length := by rw [← Array.length_toList, R.ent, List.length_map]
theorem SS.plc (R : SS P w s.heap a L es ep t) : t.place.toList.length = L.length := by rw [Array.length_toList, R.tab.sz, List.length_map]
theorem SS.fit (R : SS P w s.heap a L es ep t) : t.fits es.size = true := by
  have l1 := R.plc
  have l2 := R.len
  have l3 := R.room
  rw [Array.length_toList] at l1
  unfold SetTable.fits SetTable.fill
  rw [R.tab.dm, Bool.and_eq_true, beq_iff_eq, decide_eq_true_eq]
  exact ⟨by omega, by show t.place.size + 0 ≤ t.mask; omega⟩
theorem SS.nth (R : SS P w s.heap a L es ep t) {i : Nat} {p : Addr × PK} (h : L[i]? = some p) : es[i]? = some (khP P w p.2, Value.ref p.1) := by
  rw [← Array.getElem?_toList, R.ent, List.getElem?_map, h]; rfl
theorem SS.here (R : SS P w s.heap a L es ep t) : ¬ t.gaveWay = true := by
  unfold SetTable.gaveWay
  rw [mask_odd R.tab.mok]; decide
theorem nth_dummy (m : Nat) : ∀ (n : Nat) (p : SetTable.Probe), p.dummy = none → (nth m p n).dummy = none
  | 0, _, h => h
  | n + 1, p, h => nth_dummy m n (adv m p) (by unfold adv; split <;> exact h)
/-- the probe's start, and its c-th step -/
def p0 (m : Nat) (h : Int) : SetTable.Probe := runAt m (SetTable.bits h % (m + 1)) (SetTable.bits h)
theorem look (R : SS P w s.heap a L es ep t) {b : Addr} {k : PK} (x : IsP P w s.heap k b) (hu : A.units + 4 < cLine) {K : Nat} (k1 : K < 10 * SetTable.turns t.mask)
    (k2 : way t.mask (khP P w k) K ∉ t.place.toList) (k3 : ∀ c, c < K → way t.mask (khP P w k) c ∈ t.place.toList) {Q : SetFound → Shared → Prop}
    (yes : k ∈ L.map (·.2) → Q (.there none) s) (no : k ∉ L.map (·.2) → Q (.free (way t.mask (khP P w k) K) false) s) :
    ∀ (f c : Nat) (st : Option SetTable.Probe), st.getD (t.probeStart (khP P w k)) = nth t.mask (p0 t.mask (khP P w k)) c → c ≤ K → K - c < f →
      (∀ (i : Nat) p, L[i]? = some p → p.2 = k → ∃ d, c ≤ d ∧ d < K ∧ t.place.toList[i]? = some (way t.mask (khP P w k) d)) →
      wpAny (model P w) A (setSearchFrom a (.ref b) (khP P w k) true f st) Q E s := by
  obtain ⟨o, eo, ex, ed⟩ := R.obj
  have hsh : ∀ (i : Nat) p, L[i]? = some p → (fun i => (es[i]?.map (·.1)).getD 0) i = khP P w p.2 := fun i p hp => by
    show (es[i]?.map (·.1)).getD 0 = _
    rw [R.nth hp]; rfl
  intro f
  induction f with
  | zero => exact fun c st _ _ hf _ => absurd hf (Nat.not_lt_zero _)
  | succ f ih =>
    intro c st hst hc hf all
    have two : ∀ q, nth t.mask (nth t.mask (p0 t.mask (khP P w k)) c) q = nth t.mask (p0 t.mask (khP P w k)) (c + q) := fun q => (nth_add t.mask c _ q).symm
    have jj : ∀ q, (nth t.mask (nth t.mask (p0 t.mask (khP P w k)) c) q).j = way t.mask (khP P w k) (c + q) := fun q => congrArg SetTable.Probe.j (two q)
    rw [setSearchFrom_succ]
    refine wpAny_bind (wpAny_setState_of eo ed R.fit ?_)
    dsimp only
    refine wp_if_neg R.here ?_
    rcases go_spec t R.tab.ris R.tab.dm (fun i => (es[i]?.map (·.1)).getD 0) (khP P w k) (10 * SetTable.turns t.mask) (K - c) _ (nth_dummy t.mask c (p0 t.mask (khP P w k)) rfl) (by omega)
      (fun q hq => by rw [jj]; exact k3 (c + q) (by omega)) (by rw [jj, show c + (K - c) = K by omega]; exact k2) with ⟨q, i, hq, hi, hh, fresh, ans⟩ | ⟨fresh, ans⟩
    · have met : t.probe (fun i => (es[i]?.map (·.1)).getD 0) (khP P w k) (st.getD (t.probeStart (khP P w k))) = some (.candidate (way t.mask (khP P w k) (c + q)) i (nth t.mask (p0 t.mask (khP P w k)) (c + (q + 1)))) := by
        rw [hst, ← jj, ← two]; exact ans
      rw [met]
      dsimp only
      rw [jj] at hi
      have il : i < L.length := by rw [← R.plc]; exact (List.getElem?_eq_some_iff.mp hi).1
      have hp : L[i]? = some L[i] := List.getElem?_eq_getElem il
      generalize L[i] = p at hp
      have pm : p ∈ L := List.mem_of_getElem? hp
      have sl : t.slot (way t.mask (khP P w k) (c + q)) = .live i := slot_live R.tab.ris hi
      have rest : wpAny (model P w) A (searchRest a (.ref b) (khP P w k) true f es t (way t.mask (khP P w k) (c + q)) i (nth t.mask (p0 t.mask (khP P w k)) (c + (q + 1)))) Q E s := by
        unfold searchRest
        rw [R.nth hp]
        dsimp only
        refine wpAny_bind (wpAny_holding (eqBool_pair hu (R.tps p pm) x ?_))
        refine wpAny_bind (wpAny_setState_of eo ed R.fit ?_)
        dsimp only
        by_cases e : p.2 = k
        · exact wp_if_pos (by simp [e]) (wpAny_pure (yes (List.mem_map.mpr ⟨p, pm, e⟩)))
        · refine wp_if_neg (by simp [e]) ?_
          rw [sameMem]
          dsimp only
          simp only [if_true, sl, R.nth hp]
          refine wpAny_bind (wpAny_isSame_ref_self (wpAny_bind (wpAny_pure ?_)))
          simp only [if_true]
          refine wp_if_neg (by simp [e]) (ih (c + (q + 1)) _ rfl (by omega) (by omega) fun i' p' hp' e' => ?_)
          obtain ⟨d, d1, d2, d3⟩ := all i' p' hp' e'
          refine ⟨d, ?_, d2, d3⟩
          rcases Nat.lt_trichotomy d (c + q) with z | z | z
          · refine absurd ((hsh i' p' hp').trans (congrArg (khP P w) e')) (fresh (d - c) i' (by omega) ?_)
            rw [jj, show c + (d - c) = d by omega]; exact d3
          · rw [z] at d3
            have sl' := slot_live R.tab.ris d3
            rw [sl] at sl'
            injection sl' with ii
            rw [← ii, hp] at hp'
            exact absurd ((congrArg Prod.snd (Option.some.inj hp')).trans e') e
          · omega
      by_cases hl : t.led = true
      · exact wp_if_neg (by simp [hl]) rest
      · refine wp_if_pos (by simp [hl]) (wpAny_bind (quiet_pairs x ?_ fun y hy => ?_))
        · exact wp_if_neg (by decide) rest
        · obtain ⟨e, he, ee⟩ := List.mem_map.mp hy
          have he2 : e ∈ es ∧ e.1 = khP P w k := by simpa using he
          have he3 : e ∈ es.toList := by simpa using he2.1
          rw [R.ent] at he3
          obtain ⟨p2, hp2, e2⟩ := List.mem_map.mp he3
          exact ⟨p2.2, p2.1, by rw [← ee, ← e2], R.tps p2 hp2⟩
    · have met : t.probe (fun i => (es[i]?.map (·.1)).getD 0) (khP P w k) (st.getD (t.probeStart (khP P w k))) = some (.empty (way t.mask (khP P w k) K) none) := by
        have e2 : way t.mask (khP P w k) K = (nth t.mask (nth t.mask (p0 t.mask (khP P w k)) c) (K - c)).j := by rw [jj, show c + (K - c) = K by omega]
        rw [hst, e2]; exact ans
      rw [met]
      dsimp only
      refine wpAny_pure (no fun hm => ?_)
      obtain ⟨p', hp', e'⟩ := List.mem_map.mp hm
      obtain ⟨i', hi', ei⟩ := List.getElem_of_mem hp'
      have hpi : L[i']? = some p' := by rw [List.getElem?_eq_getElem hi', ei]
      obtain ⟨d, d1, d2, d3⟩ := all i' p' hpi e'
      refine fresh (d - c) i' (by omega) (by rw [jj, show c + (d - c) = d by omega]; exact d3) ((hsh i' p' hpi).trans (congrArg (khP P w) e'))
theorem look0 (R : SS P w s.heap a L es ep t) {b : Addr} {k : PK} (x : IsP P w s.heap k b) (hu : A.units + 4 < cLine) {Q : SetFound → Shared → Prop}
    (yes : k ∈ L.map (·.2) → Q (.there none) s)
    (no : ∀ K, k ∉ L.map (·.2) → way t.mask (khP P w k) K ∉ t.place.toList → (∀ c, c < K → way t.mask (khP P w k) c ∈ t.place.toList) → Q (.free (way t.mask (khP P w k) K) false) s) :
    wpAny (model P w) A (setSearch a (.ref b) (khP P w k) true) Q E s := by
  have l3 := R.room
  obtain ⟨K, k1, k2, k3⟩ := R.tab.first (by rw [List.length_map]; omega) (khP P w k)
  have kb : K < 100000 := by
    have : 10 * SetTable.turns t.mask ≤ 1420 := by
      unfold SetTable.turns
      rcases R.tab.mok with e | e | e <;> omega
    omega
  unfold setSearch
  refine look R x hu k1 k2 k3 yes (fun hn => no K hn k2 k3) 100000 0 none rfl (Nat.zero_le _) (by omega) fun i p hp e => ?_
  have hi : (L.map fun p => khP P w p.2)[i]? = some (khP P w k) := by rw [List.getElem?_map, hp, ← e]; rfl
  have il : i < t.place.toList.length := by rw [R.plc]; exact (List.getElem?_eq_some_iff.mp hp).1
  obtain ⟨c, c1, c2⟩ := R.tab.before k2 hi (List.getElem?_eq_getElem il)
  exact ⟨c, Nat.zero_le _, c1, by rw [List.getElem?_eq_getElem il, c2]⟩
theorem IsP.keep {h g : Heap} {k : PK} {b : Addr} (x : IsP P w h k b) (kk : ∀ c o, h.get? c = some o → g.get? c = some o) : IsP P w g k b := by
  obtain ⟨o', t1, t2, n, e1, e2, e3, x1, x2⟩ := x
  exact ⟨o', t1, t2, n, kk b o' e1, e2, e3, x1.keep kk, x2.keep kk⟩
theorem IsP.but {h g : Heap} {k : PK} {b : Addr} {o : Obj} (x : IsP P w h k b) (eo : h.get? a = some o) (ed : o.data = .set es ep t) (sb : Heap.SameBut a h g) : IsP P w g k b := by
  obtain ⟨o', t1, t2, n, e1, e2, e3, x1, x2⟩ := x
  refine ⟨o', t1, t2, n, (sb.2 b fun z => ?_).trans e1, e2, e3, x1.but eo ed sb, x2.but eo ed sb⟩
  rw [z, eo] at e1
  rw [← Option.some.inj e1, ed] at e3
  exact nomatch e3
theorem SS.keep {h g : Heap} (R : SS P w h a L es ep t) (ka : ∀ o, h.get? a = some o → g.get? a = some o) (kt : ∀ p ∈ L, IsP P w g p.2 p.1) : SS P w g a L es ep t := by
  obtain ⟨o, eo, r⟩ := R.obj
  exact ⟨⟨o, ka o eo, r⟩, R.ent, R.tab, R.dif, kt, R.led, R.room, R.few⟩
/-- entries taken in another order -/
theorem entries_in (he : es.toList = L.map fun p => (khP P w p.2, Value.ref p.1)) {od : Array Nat} (hp : od.toList.Perm (List.range L.length)) :
    ∃ M : List (Addr × PK), (od.filterMap (es[·]?)).toList = M.map (fun p => (khP P w p.2, Value.ref p.1)) ∧ M.Perm L ∧ (M.map fun p => khP P w p.2) = od.toList.map fun i => (es.map (·.1)).getD i 0 := by
  have ent : ∀ i (h : i < L.length), es[i]? = some (khP P w (L[i]).2, Value.ref (L[i]).1) := fun i h => by
    rw [← Array.getElem?_toList, he, List.getElem?_map, List.getElem?_eq_getElem h]; rfl
  have go : ∀ l : List Nat, (∀ i ∈ l, i < L.length) → l.filterMap (fun i => es[i]?) = (l.filterMap fun i => L[i]?).map (fun p => (khP P w p.2, Value.ref p.1)) ∧ ((l.filterMap fun i => L[i]?).map fun p => khP P w p.2) = l.map fun i => (es.map (·.1)).getD i 0 := by
    intro l
    induction l with
    | nil => exact fun _ => ⟨rfl, rfl⟩
    | cons i l ih =>
      intro hl
      have hi := hl i List.mem_cons_self
      obtain ⟨a1, a2⟩ := ih fun j hj => hl j (List.mem_cons_of_mem _ hj)
      have e1 : (es.map (·.1)).getD i 0 = khP P w (L[i]).2 := by
        have : (es.map (·.1))[i]? = some (khP P w (L[i]).2) := by rw [Array.getElem?_map, ent i hi]; rfl
        simp [Array.getD_eq_getD_getElem?, this]
      rw [List.filterMap_cons_some (ent i hi), List.filterMap_cons_some (List.getElem?_eq_getElem hi), a1]
      exact ⟨rfl, by rw [List.map_cons, List.map_cons, a2, e1]⟩
  obtain ⟨a1, a2⟩ := go od.toList fun i hi => List.mem_range.mp (hp.mem_iff.mp hi)
  refine ⟨od.toList.filterMap fun i => L[i]?, by rw [Array.toList_filterMap]; exact a1, ?_, a2⟩
  have h2 : ∀ n, n ≤ L.length → (List.range n).filterMap (fun i => L[i]?) = L.take n := by
    intro n
    induction n with
    | zero => exact fun _ => rfl
    | succ n ih =>
      intro hn
      rw [List.range_succ, List.filterMap_append, ih (by omega), List.take_succ, List.getElem?_eq_getElem (by omega), List.filterMap_cons_some (List.getElem?_eq_getElem (by omega))]; rfl
  have h3 := h2 L.length (Nat.le_refl _)
  rw [List.take_length] at h3
  have h4 := hp.filterMap fun i => L[i]?
  rwa [h3] at h4
/-- laid anew in a larger table -/
theorem relay {o : Obj} (eo : s.heap.get? a = some o) (ex : o.ExactSet) (ed : o.data = .set es ep t) (he : es.toList = L.map fun p => (khP P w p.2, Value.ref p.1)) (sz : t.place.size = es.size) (dm : t.dummies = #[]) (fl : es.size ≤ t.mask)
    (nd : (L.map (·.2)).Nodup) (tp : ∀ p ∈ L, IsP P w s.heap p.2 p.1) (ld : w.params.followText "set-order" = true ∨ t.led = true) (few : L.length < 64) {wt M : Nat}
    (m1 : SetTable.sizeAbove wt - 1 = M) (m2 : MaskOk M) (m3 : SetTable.sizeAbove wt ≤ 128) (m4 : L.length * 5 < M * 3) {Q : Unit → Shared → Prop}
    (q : ∀ g L' es' ep' t', Heap.SameBut a s.heap g → SS P w g a L' es' ep' t' → L'.Perm L → Q () { s with heap := g }) : wpAny (model P w) A (setRelay a wt) Q E s := by
  have l0 : es.size = L.length := by rw [← Array.length_toList, he, List.length_map]
  have ft : t.fits es.size = true := by
    unfold SetTable.fits SetTable.fill
    rw [dm, Bool.and_eq_true, beq_iff_eq, decide_eq_true_eq]
    exact ⟨sz, by show t.place.size + 0 ≤ t.mask; omega⟩
  obtain ⟨t', od, e, pm, T, em, el, _, _⟩ := relaid_ok t (hs := es.map (·.1)) (wanted := wt) m1 m2 (by rw [Array.size_map, l0]; omega)
  rw [Array.size_map, l0] at pm
  obtain ⟨N, n1, n2, n3⟩ := entries_in he pm
  rw [← n3] at T
  have l2 : (od.filterMap (es[·]?)).size = L.length := by rw [← Array.length_toList, n1, List.length_map, n2.length_eq]
  rw [setRelay_eq]
  refine wpAny_bind (wpAny_setState_of eo ed ft ?_)
  dsimp only
  refine wp_if_neg (by rw [sizeLine_eq]; omega) ?_
  rw [e]
  dsimp only
  refine wpAny_bind (wp_if_neg (by rw [l2, l0]; simp) (wpAny_pure ?_))
  dsimp only
  refine wpAny_storeSet_of eo ed ?_ (by rw [l2, sizeLine_eq]; omega)
  have sb : Heap.SameBut a s.heap (s.heap.update a (Obj.putSet (od.filterMap (es[·]?)) t')) := Heap.SameBut.update ..
  exact q _ N (od.filterMap (es[·]?)) (ep + 1) t' sb ⟨⟨_, store_at eo ed, ⟨ex.1, ex.2.1, ex.2.2⟩, rfl⟩, n1, T, (n2.map (·.2)).nodup_iff.mpr nd, fun p hp => (tp p (n2.mem_iff.mp hp)).but eo ed sb, by rw [el]; exact ld, by rw [n2.length_eq, em]; exact m4, by rw [n2.length_eq]; exact few⟩ n2
/-- one tuple more, or none if it is there -/
theorem put1 (R : SS P w s.heap a L es ep t) {b : Addr} {k : PK} (x : IsP P w s.heap k b) (hu : A.units + 4 < cLine) (few : k ∉ L.map (·.2) → L.length + 1 < 64) {Q : Bool → Shared → Prop}
    (q : ∀ r g L' es' ep' t', Heap.SameBut a s.heap g → SS P w g a L' es' ep' t' → (k ∈ L.map (·.2) → L' = L) → (k ∉ L.map (·.2) → L'.Perm ((b, k) :: L)) → Q r { s with heap := g }) :
    wpAny (model P w) A (setAddHashed a (.ref b) (khP P w k)) Q E s := by
  obtain ⟨o, eo, ex, ed⟩ := R.obj
  have l0 := R.len
  have l3 := R.room
  unfold setAddHashed
  refine wpAny_holding ?_
  rw [show (100000 : Nat) = 99999 + 1 from rfl, setAddHashedIn_succ]
  refine wpAny_bind (wpAny_setState_of eo ed R.fit ?_)
  dsimp only
  refine wp_if_neg (by simp [byScan, Value.scannable]) ?_
  refine wpAny_bind (look0 R x hu (fun hm => ?_) fun K hm k2 k3 => ?_)
  · dsimp only
    exact wpAny_pure (q false s.heap L es ep t (Heap.SameBut.refl a s.heap) R (fun _ => rfl) fun z => absurd hm z)
  · dsimp only
    refine wpAny_bind (wpAny_setState_of eo ed R.fit ?_)
    dsimp only
    have few := few hm
    obtain ⟨c1, c2, c3, c4, c5, c6, c7, c8, c9⟩ := R.tab.put k2 k3
    generalize hpt : t.put (way t.mask (khP P w k) K) = pt at c1 c3 c4 c5 c6 c7 c8 c9 ⊢
    obtain ⟨t1, at_⟩ := pt
    dsimp only at c1 c3 c4 c5 c6 c7 c8 c9 ⊢
    subst c1
    generalize SetTable.below t.place (way t.mask (khP P w k) K) = j at c2 c3 ⊢
    have inn : (SetTable.insertAt es j (khP P w k, Value.ref b)).toList = (L.take j ++ (b, k) :: L.drop j).map fun p => (khP P w p.2, Value.ref p.1) := by
      rw [SetTable.toList_insertAt, R.ent, List.map_append, List.map_cons, List.map_take, List.map_drop]
    have pm : (L.take j ++ (b, k) :: L.drop j).Perm ((b, k) :: L) := by
      have : (L.take j ++ (b, k) :: L.drop j).Perm ((b, k) :: (L.take j ++ L.drop j)) := List.perm_middle
      rwa [List.take_append_drop] at this
    have c3' : TabOk t1 ((L.take j ++ (b, k) :: L.drop j).map fun p => khP P w p.2) := by
      rw [List.map_append, List.map_cons, List.map_take, List.map_drop]; exact c3
    have ln : (L.take j ++ (b, k) :: L.drop j).length = L.length + 1 := pm.length_eq
    have nd : ((L.take j ++ (b, k) :: L.drop j).map (·.2)).Nodup := (pm.map (·.2)).nodup_iff.mpr (by rw [List.map_cons]; exact List.nodup_cons.mpr ⟨hm, R.dif⟩)
    have le : (SetTable.insertAt es j (khP P w k, Value.ref b)).size = L.length + 1 := by rw [← Array.length_toList, inn, List.length_map, ln]
    generalize SetTable.insertAt es j (khP P w k, Value.ref b) = es1 at inn le ⊢
    generalize L.take j ++ (b, k) :: L.drop j = L1 at pm ln c3' nd inn
    -- whether its hash is by value or not: the table's places are the same
    have rest : ∀ r : Bool, wpAny (model P w) A (do
        storeSet a es1 (if r = true then t1 else { t1 with plain := false })
        if !false && (if r = true then t1 else { t1 with plain := false }).tooFull then setRelay a (SetTable.grown (es.size + 1))
        return true) Q E s := fun r => by
      obtain ⟨t2, e2, m2, l2, f2, T2⟩ : ∃ t2, (if r = true then t1 else { t1 with plain := false }) = t2 ∧ t2.mask = t1.mask ∧ t2.led = t1.led ∧ t2.tooFull = t1.tooFull ∧ TabOk t2 (L1.map fun p => khP P w p.2) := by
        cases r
        · exact ⟨{ t1 with plain := false }, rfl, rfl, rfl, rfl, ⟨c3'.ris, c3'.dm, c3'.sz, c3'.mok, c3'.bd, c3'.reach⟩⟩
        · exact ⟨t1, rfl, rfl, rfl, rfl, c3'⟩
      rw [e2]
      refine wpAny_bind (wpAny_storeSet_of eo ed ?_ (by rw [le, sizeLine_eq]; omega))
      have sb : Heap.SameBut a s.heap (s.heap.update a (Obj.putSet es1 t2)) := Heap.SameBut.update ..
      have eo1 := store_at (es' := es1) (t' := t2) eo ed
      generalize s.heap.update a (Obj.putSet es1 t2) = h1 at sb eo1 ⊢
      have tp1 : ∀ p ∈ L1, IsP P w h1 p.2 p.1 := fun p hp => by
        rcases List.mem_cons.mp (pm.mem_iff.mp hp) with z | z
        · rw [z]; exact x.but eo ed sb
        · exact (R.tps p z).but eo ed sb
      have ld1 : w.params.followText "set-order" = true ∨ t2.led = true := by rw [l2, c5]; exact R.led
      have full : t2.tooFull = decide ((L.length + 1) * 5 ≥ t.mask * 3) := by
        rw [f2]
        unfold SetTable.tooFull
        rw [c9, List.length_map, c4]
      by_cases hf : (L.length + 1) * 5 ≥ t.mask * 3
      · rw [decide_eq_true hf] at full
        refine wp_if_pos (by simp [full]) (wpAny_bind ?_)
        rw [l0]
        have two : (t.mask = 7 ∧ L.length = 4) ∨ (t.mask = 31 ∧ L.length = 18) := by
          rcases R.tab.mok with e | e | e
          · left; rw [e] at hf l3; exact ⟨e, by omega⟩
          · right; rw [e] at hf l3; exact ⟨e, by omega⟩
          · exfalso; rw [e] at hf; omega
        have go : ∀ M, SetTable.sizeAbove (SetTable.grown (L.length + 1)) - 1 = M → MaskOk M → SetTable.sizeAbove (SetTable.grown (L.length + 1)) ≤ 128 → (L.length + 1) * 5 < M * 3 →
            wpAny (model P w) A (setRelay a (SetTable.grown (L.length + 1))) (fun _ z => wpAny (model P w) A (pure true) Q E z) E { s with heap := h1 } := fun M m1 m2' m3 m4 => by
          have sz1 : t2.place.size = es1.size := by rw [T2.sz, List.length_map, ln, le]
          refine relay (s := { s with heap := h1 }) eo1 ⟨ex.1, ex.2.1, ex.2.2⟩ rfl inn sz1 T2.dm (by rw [le, m2, c4]; rcases two with ⟨e, e2⟩ | ⟨e, e2⟩ <;> omega) nd tp1 ld1 (by rw [ln]; exact few) m1 m2' m3 (by rw [ln]; exact m4) ?_
          intro h2 L2 es2 ep2 t3 sb2 R2 pm2
          exact wpAny_pure (q true h2 L2 es2 ep2 t3 (sb.trans sb2) R2 (fun z => absurd z hm) fun _ => pm2.trans pm)
        rcases two with ⟨_, e2⟩ | ⟨_, e2⟩
        · exact go 31 (by rw [e2, size_20]) (.inr (.inl rfl)) (by rw [e2, size_20]; decide) (by omega)
        · exact go 127 (by rw [e2, size_76]) (.inr (.inr rfl)) (by rw [e2, size_76]; decide) (by omega)
      · rw [decide_eq_false hf] at full
        refine wp_if_neg (by simp [full]) ?_
        exact wpAny_pure (q true h1 L1 es1 (ep + 1) t2 sb ⟨⟨_, eo1, ⟨ex.1, ex.2.1, ex.2.2⟩, rfl⟩, inn, T2, nd, tp1, ld1, by rw [ln, m2, c4]; omega, by rw [ln]; exact few⟩ (fun z => absurd z hm) fun _ => pm)
    by_cases hp : t1.plain = true
    · exact wp_if_pos hp (wpAny_bind (hashBy_pair x fun r => rest r))
    · exact wp_if_neg hp (wpAny_bind (wpAny_pure (rest true)))
end
/-- what is in the set behind the first i items -/
structure Has (ks : List (Addr × PK)) (i : Nat) (L : List (Addr × PK)) : Prop where
  sub : ∀ p ∈ L, p ∈ ks.take i
  all : ∀ p ∈ ks.take i, p.2 ∈ L.map (·.2)
theorem Has.next {ks L L' : List (Addr × PK)} {i : Nat} {x : Addr × PK} (g : Has ks i L) (h : ks[i]? = some x) (c1 : x.2 ∈ L.map (·.2) → L' = L) (c2 : x.2 ∉ L.map (·.2) → L'.Perm (x :: L)) : Has ks (i + 1) L' := by
  have tk : ks.take (i + 1) = ks.take i ++ [x] := by rw [List.take_succ, h]; rfl
  by_cases c : x.2 ∈ L.map (·.2)
  · rw [c1 c]
    refine ⟨fun p hp => by rw [tk]; exact List.mem_append_left _ (g.sub p hp), fun p hp => ?_⟩
    rw [tk] at hp
    rcases List.mem_append.mp hp with z | z
    · exact g.all p z
    · rw [List.mem_singleton.mp z]; exact c
  · have pm := c2 c
    refine ⟨fun p hp => ?_, fun p hp => ?_⟩
    · rw [tk]
      rcases List.mem_cons.mp (pm.mem_iff.mp hp) with z | z
      · rw [z]; simp
      · exact List.mem_append_left _ (g.sub p z)
    · rw [(pm.map (·.2)).mem_iff, List.map_cons]
      rw [tk] at hp
      rcases List.mem_append.mp hp with z | z
      · exact List.mem_cons_of_mem _ (g.all p z)
      · rw [List.mem_singleton.mp z]; exact List.mem_cons_self
section
variable {P : Program} {w : World} {A : Around} {E : Value → Shared → Prop} {s : Shared}
theorem fill {I : Addr} {fp wr : List Addr} {G : Array GenState → Array GenState → Prop} {n : Nat} {Pv : Nat → Value → Prop} {St : Nat → Shared → Prop} {R : Result → Shared → Prop} (W : WalksS P w A.in1 I fp wr G n Pv St) {S : Addr} (sf : S ∉ fp)
    {ks : List (Addr × PK)} (en : n = ks.length) {U : List PK} (inU : ∀ p ∈ ks, p.2 ∈ U) (fewU : U.length < 64) (val : ∀ i v, Pv i v → ∃ p, ks[i]? = some p ∧ v = .ref p.1) {h0 : Heap} (tp : ∀ p ∈ ks, IsP P w h0 p.2 p.1) (s0 : h0.get? S = none) (w0 : ∀ b ∈ wr, h0.get? b = none) (hu : A.in1.units + 4 < cLine) :
    ∀ (k i : Nat) (s : Shared), n - i = k → i ≤ n → St i s → (∀ b o, h0.get? b = some o → s.heap.get? b = some o) → (∃ L es ep t, SS P w s.heap S L es ep t ∧ Has ks i L) →
      (∀ s' L es ep t, Moved (S :: wr) G s s' → SS P w s'.heap S L es ep t → Has ks n L → (∀ b o, h0.get? b = some o → s'.heap.get? b = some o) → R (.ok (.ret .none)) s') →
      codeAny (model P w) A (.builtin "set.update.loop" ⟨[.ref S, .ref I], []⟩) R s := by
  have sw : S ∉ wr := fun h => sf (W.sub _ h)
  have cons : ∀ b ∈ wr, b ∈ S :: wr := fun b hb => List.mem_cons_of_mem _ hb
  have on : ∀ {s s' : Shared}, Moved wr G s s' → (∀ b o, h0.get? b = some o → s.heap.get? b = some o) → ∀ b o, h0.get? b = some o → s'.heap.get? b = some o := fun m kp b o e =>
    m.heap b o (fun hb => by rw [w0 b hb] at e; cases e) (kp b o e)
  intro k
  induction k with
  | zero =>
    intro i s hk hi st kp ⟨L, es, ep, t, hS, g⟩ hR
    obtain rfl : i = n := by omega
    refine codeAny_builtin F.entry_set_update_loop ?_
    rw [Around.under_plainId F.plain_set_update_loop _]
    show wpAny _ A.in1 (pyNext (.ref I) >>= _) _ _ _
    refine wpAny_bind (W.done s _ _ st fun z m => ?_)
    have kp' := on m kp
    show wpAny _ A.in1 (ret Value.none) _ _ z
    exact wpAny_pure (hR z L es ep t (m.mono cons) (hS.keep (fun o e => m.heap S o sw e) fun p hp => (tp p (List.mem_of_mem_take (g.sub p hp))).keep kp') g kp')
  | succ k ih =>
    intro i s hk hi st kp ⟨L, es, ep, t, hS, g⟩ hR
    refine codeAny_builtin F.entry_set_update_loop ?_
    rw [Around.under_plainId F.plain_set_update_loop _]
    show wpAny _ A.in1 (pyNext (.ref I) >>= _) _ _ _
    refine wpAny_bind (W.item i s _ _ (by omega) st fun v z hP st' m => ?_)
    obtain ⟨p, hp, rfl⟩ := val i v hP
    have kp' := on m kp
    have hS' : SS P w z.heap S L es ep t := hS.keep (fun o e => m.heap S o sw e) fun r hr => (tp r (List.mem_of_mem_take (g.sub r hr))).keep kp'
    have xp : IsP P w z.heap p.2 p.1 := (tp p (List.mem_of_getElem? hp)).keep kp'
    show wpAny _ A.in1 (holding [Value.ref p.1] (setAdd S (.ref p.1)) >>= _) _ _ z
    refine wpAny_bind (wpAny_holding ?_)
    unfold setAdd
    refine wpAny_holding (wpAny_bind (pyHash_pair hu xp fun tk ltk => ?_))
    have few : p.2 ∉ L.map (·.2) → L.length + 1 < 64 := fun hn => by
      have := nodup_sub (l := p.2 :: L.map (·.2)) (U := U) (List.nodup_cons.mpr ⟨hn, hS'.dif⟩) fun y hy => by
        rcases List.mem_cons.mp hy with e | hy
        · rw [e]; exact inU p (List.mem_of_getElem? hp)
        · obtain ⟨r, hr, rfl⟩ := List.mem_map.mp hy
          exact inU r (List.mem_of_mem_take (g.sub r hr))
      rw [List.length_cons, List.length_map] at this
      omega
    refine put1 (s := { z with toks := tk }) hS' xp hu few fun r gg L' es' ep' t' sb S2 c1 c2 => ?_
    have kp2 : ∀ b o, h0.get? b = some o → gg.get? b = some o := fun b o e => (sb.2 b (fun z => by rw [z, s0] at e; cases e)).trans (kp' b o e)
    refine wpAny_pure ⟨plainId_quiet F.plain_set_update_loop _, ih (i + 1) _ (by omega) (by omega) (W.frame _ z _ _ st' ltk fun b hb o e => ?_) kp2 ⟨L', es', ep', t', S2, g.next hp c1 c2⟩ fun y L2 es2 ep2 t2 m2 S3 g3 kp3 => ?_⟩
    · rw [sb.2 b (fun h : b = S => sf (by rw [← h]; exact hb))]; exact e
    · refine hR y L2 es2 ep2 t2 (Moved.trans W.gtrans ((m.mono cons).then_heap ltk fun b o hb e => ?_) m2) S3 g3 kp3
      rw [sb.2 b (fun h : b = S => hb (by rw [h]; exact List.mem_cons_self))]; exact e
def emptyT (w : World) : SetTable := .fresh 0 0 (!w.params.followText "set-order")
def emptyO (w : World) : Obj := { cls := .type "set", dict := none, data := .set #[] 0 (emptyT w) }
theorem SS.fresh {h : Heap} {a : Addr} (ho : h.get? a = some (emptyO w)) : SS P w h a [] #[] 0 (emptyT w) where
  obj := ⟨_, ho, ⟨rfl, rfl, rfl⟩, rfl⟩
  ent := rfl
  tab := ⟨List.Pairwise.nil, rfl, rfl, .inl rfl, fun x hx => (nomatch hx), fun i h j hi => (by simp at hi)⟩
  dif := List.nodup_nil
  tps := fun p hp => (nomatch hp)
  led := by
    show _ ∨ (!w.params.followText "set-order") = true
    cases w.params.followText "set-order"
    · exact .inr rfl
    · exact .inl rfl
  room := by show 0 * 5 < 7 * 3; decide
  few := by show 0 < 64; decide
end
end P2
end Lq
namespace Lq
open PySem PySem.Spec PyProof.Rows L2
end Lq
namespace Lq
open PySem PySem.Spec PyProof.Rows L2
namespace P2
/-! ### sorted(set(a list of pairs of tuples of texts)) -/
structure SetS0 (P : Program) (w : World) (h : Heap) (a : Addr) (L : List (Addr × PK)) : Prop where
  ex : ∃ (es : Array (Int × Value)) (ep : Nat) (t : SetTable), (∃ o, h.get? a = some o ∧ o.ExactSet ∧ o.data = .set es ep t) ∧ es.toList = L.map (fun p => (khP P w p.2, Value.ref p.1)) ∧ TabOk t (L.map fun p => khP P w p.2) ∧ (L.map (·.2)).Nodup ∧
    (w.params.followText "set-order" = true ∨ t.led = true) ∧ L.length * 5 < t.mask * 3 ∧ L.length < 64
theorem SS.bare {P : Program} {w : World} {h : Heap} {a : Addr} {L : List (Addr × PK)} {es : Array (Int × Value)} {ep : Nat} {t : SetTable} (R : SS P w h a L es ep t) : SetS0 P w h a L := ⟨es, ep, t, R.obj, R.ent, R.tab, R.dif, R.led, R.room, R.few⟩
end P2
end Lq
namespace Lq
open PySem PySem.Spec PyProof.Rows L2
/-! ### sorted(set(a list of pairs of tuples of texts)), over data -/
end Lq
namespace Lq
open PySem PySem.Spec PyProof.Rows L2
/-! ### a dict that a name holds as its own: x = {}, x[k] = e, and x, locked for good where it is read -/
/-! #### stepwise -/
end Lq
namespace Lq
open PySem PySem.Spec PyProof.Rows L2
/-! ### sorted(a dict): its keys, ints or texts -/
/-! over data -/
/-! ### x.get(k, e), k in x, x a name's own dict -/
/-! ### a dict display as a value: a new dict, locked for good -/
/-! #### stepwise -/
end Lq
namespace Lq
open PySem PySem.Spec PyProof.Rows L2
/-! ### enumerate(zip(x, y)) over the raw heap: the tuple of the zip is held by the one of the enumerate -/
namespace EZ
/-- a zip, whatever became of its tuple -/
abbrev Zp (h : Heap) (z TI TO : Addr) (f0 : Value) (b : Bool) : Prop :=
  h.get? z = some { cls := .type "zip", dict := none, data := .fields #[f0, .bool b, .bool false, .ref TI, .ref TO], slots := #[] }
def ZSt (z TI TO i1 i2 : Addr) (St1 St2 : Nat → Heap → Prop) (i : Nat) (h : Heap) : Prop :=
  (∃ f0 b, Zp h z TI TO f0 b ∧ (f0 = .none ∨ ∃ a : Nat, f0 = rawInt a)) ∧ IsTupOf2 h TI (.ref i1) (.ref i2) ∧ (∃ a1 a2, IsTupOf2 h TO a1 a2) ∧ St1 i h ∧ St2 i h
section
variable {prog : Program} {w : World} {A : Around} {E : Value → Shared → Prop} {s : Shared} {z TI TO i1 i2 : Addr} {fp1 fp2 : List Addr} {n1 n2 i : Nat} {P1 P2 : Nat → Value → Prop} {St1 St2 : Nat → Heap → Prop}
theorem alive {a : Addr} {Q : Option Obj → Shared → Prop} (q : Q (s.heap.get? a) s) : wpAny (model prog w) A (loadIfAlive a) Q E s := fun Γ p hΓ => by
  unfold loadIfAlive
  rw [Sem.wp_loadIfAlive]
  exact q
/-- the look whether the tuple is free: yes, or no with a note -/
theorem free {f0 : Value} {b : Bool} {Q : Bool → Shared → Prop} (hz : Zp s.heap z TI TO f0 b) (hf : f0 = .none ∨ ∃ a : Nat, f0 = rawInt a) (yes : Q true s)
    (no : ∀ (a : Nat) h', f0 = rawInt a → Zp h' z TI TO f0 true → Heap.SameBut z s.heap h' → Q false { s with heap := h' }) : wpAny (model prog w) A (Builtin.SmallTypes.ownedTupleIsFree (.ref z)) Q E s := by
  unfold Builtin.SmallTypes.ownedTupleIsFree
  refine wpAny_bind (wpAny_field hz rfl (x := f0) rfl ?_)
  rcases hf with rfl | ⟨a, rfl⟩
  · exact wpAny_pure yes
  · change wpAny _ _ (loadIfAlive ((a : Int).toNat) >>= _) _ _ _
    refine wpAny_bind (alive ?_)
    cases e : s.heap.get? ((a : Int).toNat) with
    | none =>
      simp only [Option.isNone_none, if_true]
      exact wpAny_pure yes
    | some oa =>
      simp only [Option.isNone_some, Bool.false_eq_true, if_false]
      refine wpAny_bind (wpAny_field hz rfl (x := .bool b) rfl ?_)
      cases b with
      | true =>
        rw [if_neg (by decide)]
        exact wpAny_pure (no a _ rfl hz (Heap.SameBut.refl ..))
      | false =>
        rw [if_pos (by decide)]
        refine wpAny_bind (wpAny_setField_rec hz (by simp) fun h' hz' hs' => ?_)
        exact wpAny_pure (no a h' rfl hz' hs')
end
end EZ
end Lq
namespace Lq
open PySem PySem.Spec PyProof.Rows L2
namespace EZ
section
variable {prog : Program} {w : World} {A : Around} {E : Value → Shared → Prop} {s : Shared} {z TI TO i1 i2 : Addr} {fp1 fp2 : List Addr} {n1 n2 i : Nat} {P1 P2 : Nat → Value → Prop} {St1 St2 : Nat → Heap → Prop}
theorem ZSt.keep (D1 : Draws prog w A i1 fp1 n1 P1 St1) (D2 : Draws prog w A i2 fp2 n2 P2 St2) {h h' : Heap} (st : ZSt z TI TO i1 i2 St1 St2 i h) (k : ∀ c, c ∈ z :: TI :: TO :: (fp1 ++ fp2) → ∀ o, h.get? c = some o → h'.get? c = some o) : ZSt z TI TO i1 i2 St1 St2 i h' := by
  obtain ⟨⟨f0, b, hz, hf⟩, hTI, ⟨a1, a2, hTO⟩, s1, s2⟩ := st
  exact ⟨⟨f0, b, k z (by simp) _ hz, hf⟩, k TI (by simp) _ hTI, ⟨a1, a2, k TO (by simp) _ hTO⟩, D1.frame _ _ _ s1 fun c hc o e => k c (by simp [hc]) o e, D2.frame _ _ _ s2 fun c hc o e => k c (by simp [hc]) o e⟩
/-- the cells of the enumerate lie apart from the zip's -/
structure Ap (e z TI TO : Addr) (fp1 fp2 : List Addr) : Prop where
  z : e ≠ z
  ti : e ≠ TI
  to : e ≠ TO
  f1 : e ∉ fp1
  f2 : e ∉ fp2
theorem Ap.all {e : Addr} (p : Ap e z TI TO fp1 fp2) {c : Addr} (h : c ∈ z :: TI :: TO :: (fp1 ++ fp2)) : c ≠ e := fun q => by
  subst q
  rcases List.mem_cons.1 h with h | h
  · exact p.z h
  · rcases List.mem_cons.1 h with h | h
    · exact p.ti h
    · rcases List.mem_cons.1 h with h | h
      · exact p.to h
      · rcases List.mem_append.1 h with h | h
        · exact p.f1 h
        · exact p.f2 h
end
end EZ
end Lq
namespace Lq
open PySem PySem.Spec PyProof.Rows L2
open AutoSeq1 (wpAny_loadPart')
/-! ### enumerate(zip(tuple, tuple)) as what is walked -/
end Lq
namespace Lq
open PySem PySem.Spec PyProof.Rows L2
/-! ### f-strings of texts and ints -/
end Lq
namespace Lq
open PySem PySem.Spec PyProof.Rows L2
/-! ### a comprehension over own lists that stay own: what it shows is flat, and nothing else changes -/
end Lq
namespace Lq
open PySem PySem.Spec PyProof.Rows L2
/-! ### a text no times, once and more -/
end Lq
namespace Lq
open PySem PySem.Spec PyProof.Rows L2
/-! ### dicts whose keys are tuples of ints and texts: .obj 57 [length, items, value, ..] -/
def flatTD : List (List Key × D) → List D
  | [] => []
  | p :: r => .int (p.1.length : Nat) :: (p.1.map kD ++ p.2 :: flatTD r)
def takeK : Nat → List D → Option (List Key × List D)
  | 0, r => some ([], r)
  | _ + 1, [] => none
  | n + 1, d :: r => match keyD d, takeK n r with
    | some k, some (ks, q) => some (k :: ks, q)
    | _, _ => none
def pairsT : Nat → List D → Option (List (List Key × D))
  | _, [] => some []
  | 0, _ :: _ => none
  | f + 1, d :: r => match d with
    | .int n => (match takeK n.toNat r with
      | some (ks, v :: q) => (match pairsT f q with | some l => some ((ks, v) :: l) | none => none)
      | _ => none)
    | _ => none
def hasTD : List (List Key × D) → List Key → Bool
  | [], _ => false
  | p :: r, k => decide (p.1 = k) || hasTD r k
def putTD (l : List (List Key × D)) (k : List Key) (v : D) : List (List Key × D) := if hasTD l k = true then l.map (fun p => if p.1 = k then (p.1, v) else p) else l ++ [(k, v)]
section
variable {K : PySem.W.Frag} {T : Tb} {S S' H : Hp}
def DKT (K : PySem.W.Frag) (T : Tb) (S : Hp) : List (List Key × D) → List (List Key × V) → Prop := Paired fun (p : List Key × D) (q : List Key × V) => p.1 = q.1 ∧ Rp K T S p.2 q.2
theorem DKT.mono {l : List (List Key × D)} {kvs : List (List Key × V)} (e : Same S S') (h : DKT K T S l kvs) : DKT K T S' l kvs := Paired.mapP h fun _ _ z => ⟨z.1, Rp.mono e _ _ z.2⟩
theorem DKT.len {l : List (List Key × D)} {kvs : List (List Key × V)} (h : DKT K T S l kvs) : l.length = kvs.length := Paired.length h
theorem takeK_rp : ∀ {ks : List Key} {fs : List D} {r : List V} {ks' : List Key} {q : List D}, Rps K T S fs (ks.map L2.kV ++ r) → takeK ks.length fs = some (ks', q) → ks' = ks ∧ Rps K T S q r
  | [], fs, r, ks', q, h, e => by cases e; exact ⟨rfl, h⟩
  | k :: ks, [], r, ks', q, h, e => by cases e
  | k :: ks, d :: fs, r, ks', q, ⟨v, r2, e1, h1, h2⟩, e => by
    rw [List.map_cons, List.cons_append] at e1
    cases e1
    rw [List.length_cons, takeK] at e
    split at e
    · rename_i k1 ks1 q1 a1 a2
      cases e
      obtain ⟨e2, h3⟩ := takeK_rp h2 a2
      rw [keyD_of a1] at h1
      exact ⟨by rw [e2, L2.kV_inj (rp_key h1)], h3⟩
    · cases e
theorem DKT.of : ∀ {f : Nat} {fs : List D} {l : List (List Key × D)} {kvs : List (List Key × V)}, Rps K T S fs (flatKT kvs) → pairsT f fs = some l → DKT K T S l kvs
  | _, [], l, kvs, r, h => by
    have : l = [] := by
      rename_i f
      cases f <;> (cases h; rfl)
    subst this
    cases kvs with
    | nil => exact .nil
    | cons p q => exact nomatch (show flatKT (p :: q) = [] from r)
  | 0, _ :: _, _, _, _, h => by cases h
  | f + 1, d :: fs, l, kvs, ⟨u, r1, e1, h1, h2⟩, h => by
    cases kvs with
    | nil => cases e1
    | cons p q =>
      rw [flatKT] at e1
      cases e1
      cases d with
      | int n =>
        have hn : n = (p.1.length : Nat) := by
          have : V.int (p.1.length : Nat) = V.int n := h1
          injection this with this
          exact this.symm
        subst hn
        simp only [pairsT, Int.toNat_natCast] at h
        split at h
        · rename_i ks v q1 a1
          obtain ⟨e2, h3⟩ := takeK_rp h2 a1
          obtain ⟨u2, r2, e3, h4, h5⟩ := h3
          cases e3
          split at h
          · rename_i m a2
            cases h
            exact .cons ⟨e2, h4⟩ (DKT.of h5 a2)
          · cases h
        · cases h
      | _ => simp [pairsT] at h
theorem keys_rp : ∀ (ks : List Key), Rps K T S (ks.map kD) (ks.map L2.kV)
  | [] => rfl
  | k :: ks => ⟨_, _, rfl, key_rp k, keys_rp ks⟩
theorem DKT.flat : ∀ {l : List (List Key × D)} {kvs : List (List Key × V)}, DKT K T S l kvs → Rps K T S (flatTD l) (flatKT kvs)
  | _, _, .nil => rfl
  | _, _, .cons (a := p) (b := q) h t => by
    rw [flatTD, flatKT, h.1]
    exact ⟨_, _, rfl, rfl, Rps.append (keys_rp q.1) ⟨_, _, rfl, h.2, DKT.flat t⟩⟩
theorem DKT.has {k : List Key} : ∀ {l : List (List Key × D)} {kvs : List (List Key × V)}, DKT K T S l kvs → hasTD l k = (kvs.any fun kv => decide (kv.1 = k))
  | _, _, .nil => rfl
  | _, _, .cons (a := p) (b := q) h t => by rw [hasTD, List.any_cons, h.1, DKT.has t]
theorem DKT.put {l : List (List Key × D)} {kvs : List (List Key × V)} {k : List Key} {d : D} {v : V} (h : DKT K T S l kvs) (r : Rp K T S d v) : DKT K T S (putTD l k d) (putK kvs k v) := by
  unfold putTD putK
  rw [h.has]
  by_cases hb : (kvs.any fun kv => decide (kv.1 = k)) = true
  · rw [if_pos hb, if_pos hb]
    clear hb
    unfold DKT at h ⊢
    induction h with
    | nil => exact .nil
    | @cons p q ps qs h t ih =>
      rw [List.map_cons, List.map_cons]
      refine .cons ?_ ih
      by_cases e : p.1 = k
      · rw [if_pos e, if_pos (h.1.symm.trans e)]; exact ⟨h.1, r⟩
      · rw [if_neg e, if_neg (fun z => e (h.1.trans z))]; exact h
  · rw [if_neg hb, if_neg hb]
    clear hb
    unfold DKT at h ⊢
    induction h with
    | nil => exact .cons ⟨rfl, r⟩ .nil
    | @cons p q ps qs h t ih => exact .cons h ih
theorem DKT.at {k : List Key} {d : D} {l : List (List Key × D)} {kvs : List (List Key × V)} (h : DKT K T S l kvs) {i : Nat} (hi : l[i]? = some (k, d)) : ∃ v, kvs[i]? = some (k, v) ∧ Rp K T S d v := by
  unfold DKT at h
  induction h generalizing i with
  | nil => cases hi
  | @cons p q ps qs h t ih =>
    cases i with
    | zero =>
      simp only [List.getElem?_cons_zero, Option.some.injEq] at hi ⊢
      subst hi
      exact ⟨q.2, by obtain ⟨q1, q2⟩ := q; obtain ⟨e, _⟩ := h; simp only at e; subst e; rfl, h.2⟩
    | succ i =>
      simp only [List.getElem?_cons_succ] at hi ⊢
      exact ih hi
end
end Lq
namespace Lq
open PySem PySem.Spec PyProof.Rows L2
/-! ### a dict of a name's own, its keys tuples: x = {}, x[tuple(..)] = e, and x, locked for good where it is read -/
def newT (i : Nat) : Rho → O := fun ρ => .nx (ρ.set i (.kt []))
section
variable {K : PySem.W.Frag} {T : Tb} {W : WX} {β : Bt} {G S S' H : Hp} {σ : L2.St} {ρ : Rho}
/-- a new tuple -/
def PostTp (K : PySem.W.Frag) (T : Tb) (W : WX) (β : Bt) (G S : Hp) (σ : L2.St) (r : R (List D)) (Q : VK) : Prop := match r with
  | .ok ds ρ' => ∀ S' H' p vs, Same S S' → Ok K T β G S' σ ρ' H' → S' p = some (.tup vs) → Rps K T S' ds vs → Q (.ref p) H'
  | .err x ρ' => ∀ S' H' c d, Same S S' → Ok K T β G S' σ ρ' H' → XR K T S' x c d → W c d σ H'
  | .bad => False
theorem PostTp.mono {r : R (List D)} {Q : VK} (h : PostTp K T W β G S σ r Q) (e : Same S S') : PostTp K T W β G S' σ r Q := by
  cases r with
  | ok a ρ' => exact fun S2 H2 p vs e2 o => h S2 H2 p vs (e.trans e2) o
  | err x ρ' => exact fun S2 H2 c d e2 o => h S2 H2 c d (e.trans e2) o
  | bad => exact h
end
/-! #### stepwise -/
end Lq
namespace Lq
open PySem PySem.Spec PyProof.Rows L2
end Lq
namespace Lq
open PySem PySem.Spec PyProof.Rows L2
/-! ### a display of one pair, its key a new tuple; a def that hands back a new tuple -/
/-! #### defs whose body is: return a new tuple -/
/-! #### stepwise -/
end Lq
namespace Lq
open PySem PySem.Spec PyProof.Rows L2
/-! ### t.count(text), t a known tuple of texts -/
end Lq
namespace Lq
open PySem PySem.Spec PyProof.Rows L2
/-! ### x = [new list, e, ..]; x = x + [e, ..]; if c: return ..; x[0].append(text): x is not read behind it -/
def isPl : Cell → Bool
  | .no => true
  | .d _ => true
  | _ => false
/-! #### stepwise -/
end Lq
namespace Lq
open PySem PySem.Spec PyProof.Rows L2
/-! ### C(f=e) of a class with slots and a default -/
theorem kwI_of {K : PySem.W.Frag} {T : Tb} {x qual f : Str} {st : Stmt} {d0 fI : Addr} {fd : FuncData} (F : FunU K T x qual st d0 fI fd)
    (h : ∀ (T0 : Addr) (kV doc pm : Value) (an : Option Addr) (cdv ct : Value) (a v d : Value), ∃ k, bindArgs (PySem.W.fnOf x qual (defArgs st) (defBody st) (defScope st) (.ref T0) kV doc pm an cdv ct) ⟨[a], [(f, v)]⟩ = seqItems? (.ref T0) >>= k ∧ k (some #[d]) = pure [(("self" : Str), a), (f, v)]) : KwS K fd f := by
  obtain ⟨oc, od, dV, kV, doc, pm, an, cdv, ct, osl, rfl, lk, hcd, hD, hK⟩ := F.fn.ex
  rcases hD with ⟨e, _⟩ | ⟨_, T0, o, its, m, rfl, lT, oT, rT⟩
  · cases e
  · intro s a v X
    obtain ⟨d, rfl⟩ : ∃ d, its = [d] := by
      cases rT with
      | cons r t => cases t; exact ⟨_, rfl⟩
    obtain ⟨k, e1, e2⟩ := h T0 kV doc pm an cdv ct a v d
    refine BindsTo.of_looks fun M => ?_
    rw [e1]
    exact looks_items X lT oT (.of_pure e2)
section
variable {X : Cx} {C f : Addr} {k : Nat} {fd : FuncData} {ps : List Str} {sp : Sp} {E : L2.St → L2.XK} {x : Str} {p pos : Pos}
theorem made_runK {pins : List (Addr × Obj)} {σ : L2.St} {H : Hp} {s : Shared} {Q : VK} {u : Value} {v : V} {fl : Str} (M : Mk X.K C f) (F : FnOk X.prog X.w X.K X.mg X.base (L2.CX X.prog X.w) k f fd ["self", fl] sp) (hr : Room (k + 1) X.A) (hb : KwS X.K fd fl)
    (hx : PassesAt (L2.CX X.prog X.w) X σ (E σ)) (I : Inv X pins σ H s) (r : RelV v u) (h : ∀ x dx, H x = none → H dx = none → dx ≠ x → sp [.ref x, v] (upd (upd H dx (.own x)) x (.ins C dx [])) (fun v H2 => v = .non ∧ Q (.ref x) H2) (E σ)) :
    wpAny (model X.prog X.w) X.A (call (.ref C) [] [(fl, u)]) (EP X pins σ Q) X.xe s := by
  have go := h (s.heap.objs.size + 1) s.heap.objs.size (I.hok.fresh (Nat.le_succ _)) (I.hok.fresh (Nat.le_refl _)) (Nat.ne_of_lt (Nat.lt_succ_self _))
  have J := Inv.made (C := C) I
  have r2 : Vals [V.ref (s.heap.objs.size + 1), v] [Value.ref (s.heap.objs.size + 1), u] := .cons rfl (.cons r .nil)
  have bd := hb { s with heap := (s.heap.push PySem.W.emptyDict).push (PySem.W.instObj C s.heap.objs.size) } (Value.ref (s.heap.objs.size + 1)) u J.kIn
  refine wpAny_call (make_map (f := f) I.kIn M.makes M.init (beq_iff_eq.mp M.fn) (codeAny_mono (F.run _ X.stack _ _ ⟨[Value.ref (s.heap.objs.size + 1)], [(fl, u)]⟩ [Value.ref (s.heap.objs.size + 1), u] _ _ (E σ) (hr.make C [] [(fl, u)]) (J.env0.make C [] [(fl, u)]) bd r2 go) fun w s' z => ?_))
  cases w with
  | error y => exact hx pins _ _ y s' J z
  | ok fl =>
    cases fl with
    | ret u =>
      obtain ⟨v, H', J3, rv, ev, q3⟩ := J.after z
      subst ev
      exact ⟨rv, ⟨V.ref (s.heap.objs.size + 1), H', J3, rfl, q3⟩⟩
    | _ => exact z.elim
theorem pe_makeSK {fl : Str} {kws : List Keyword} {tk : TA} (M : Mk X.K C f) (F : FnOk X.prog X.w X.K X.mg X.base (L2.CX X.prog X.w) k f fd ["self", fl] sp) (hr : Room (k + 1) X.A) (hg : L2.Gl X x) (hm : X.mg x = some (.ref C)) (hb : KwS X.K fd fl) (hx : ∀ σ, PassesAt (L2.CX X.prog X.w) X σ (E σ))
    (hlen : ∀ vs H Q E, sp vs H Q E → vs.length = 2)
    (hkw : PK X kws tk) (hall : (backToKw pos (keywordEach kws X.env)).all (·.1.isSome) = true := by rfl) (hks : (backToKw pos (keywordEach kws X.env)).filterMap (·.1) = [fl] := by rfl)
    (hdb : (x == ("__debug__" : Str)) = false := by decide) (hpl : ((backTo pos (starEach [] X.env)).any (·.1) || (backToKw pos (keywordEach kws X.env)).any (·.1.isNone)) = false := by rfl) :
    PE X (.Call (.Name x p) [] kws pos) (tMakeS C sp E tk) := by
  refine ⟨fun pins s σ H Q I h => wpAny_Call_Name_kw (ld_glob I hg hm ?_ hdb)⟩
  refine PySem.W.callWith_KW0 (h₀ := X.base) I.ok.mod.kin M.kp hall (thn (hkw.run pos pins s σ H _ I h) fun ws s2 ⟨zs, H2, I2, rz, q2⟩ => ⟨I2.kIn, ?_⟩) hpl
  rw [hks]
  have hl : zs.length = 1 := by
    have z := hlen _ _ _ _ (q2 (s2.heap.objs.size + 1) s2.heap.objs.size (I2.hok.fresh (Nat.le_succ _)) (I2.hok.fresh (Nat.le_refl _)) (Nat.ne_of_lt (Nat.lt_succ_self _)))
    simpa using z
  cases rz with
  | nil => simp at hl
  | cons r t =>
    cases t with
    | cons _ _ => simp at hl
    | nil => exact made_runK M F hr hb (hx σ) I2 r q2
theorem xe_makeK {T : Tb} {W : WX} {F : List D → Res} {fs : Rho → R (List VD)} {t : Nat} {fl : Str} {kws : List Keyword} (M : Mk X.K (T t) f) (Fk : FnOk X.prog X.w X.K X.mg X.base (L2.CX X.prog X.w) k f fd ["self", fl] (spI X.K T t 1 F)) (hr : Room (k + 1) X.A) (hm : X.mg x = some (.ref (T t))) (hb : KwS X.K fd fl) (tk : Takes X W)
    (hn : ∀ ds, F ds ≠ .bad → ds.length = 1) (hF : ∀ ds d, F ds = .ok d → ∃ fs, d = .obj t fs) (ha : XK X T W kws fs) (hg : L2.Gl X x := by rfl) (hall : (backToKw pos (keywordEach kws X.env)).all (·.1.isSome) = true := by rfl) (hks : (backToKw pos (keywordEach kws X.env)).filterMap (·.1) = [fl] := by rfl)
    (hdb : (x == ("__debug__" : Str)) = false := by decide) (hpl : ((backTo pos (starEach [] X.env)).any (·.1) || (backToKw pos (keywordEach kws X.env)).any (·.1.isNone)) = false := by rfl) :
    XE X T W (.Call (.Name x p) [] kws pos) (callE F fs) :=
  (pe_makeSK (E := WE W) M Fk hr hg hm hb (fun σ => passAt tk σ) (fun vs H Q E h => by
    obtain ⟨S, a, dx, ws, ds, rfl, _, _, _, _, _, _, rw, hl, _⟩ := h
    rw [List.length_cons, rw.len, hl]) ha hall hks hdb hpl).impQ fun σ H Q h => by
    have z := call_of hn h
    obtain ⟨β, G, S, ρ, o, q⟩ := z
    refine ⟨β, G, S, ρ, o, ?_⟩
    revert q
    cases fs ρ with
    | bad => exact fun q => q
    | err y ρ1 => exact fun q => q
    | ok vs ρ1 => exact fun q S' H' u e o' r a dx ha hd hne => spP_make hF (q S' H' u e o' r) a dx ha hd hne
end
/-! ### C.m(f=e): a static method by keywords -/
/-! ### x.upper() -/
end Lq
namespace Lq
open PySem PySem.Spec PyProof.Rows L2
/-! ### x.replace(y, z) of two written texts, behind a written text of the same list -/
section
variable {X : Cx} {T : Tb} {W : WX} {a e o : Expr} {es : List Expr} {fa fo : Rho → R VD} {fs : Rho → R (List VD)} {pos apos : Pos}
theorem _root_.L2.PAT.impQ {X : Cx} {e : List Expr} {t t' : TA} (h : PAT X e t) (i : ∀ σ H Q, t' σ H Q → t σ H Q) : PAT X e t' := fun pos pins s σ H Q h0 I w => h pos pins s σ H Q h0 I (i σ H Q w)
end
end Lq
namespace Lq
open PySem PySem.Spec PyProof.Rows L2
/-! ### sorted of a list or a tuple by a key -/
/-! ### the stable order by a key -/
/-! ### the lambda's body -/
/-! ### the lambda is made: all stays, but its table, which grows -/
/-! ### sorted(e, key=lambda own: -known[own] if dear else known[own]) -/
/-! #### in the layer -/
end Lq
namespace Lq
open PySem PySem.Spec PyProof.Rows L2
/-! ### the end of a law whose defs make a lambda -/
/-! ### a def by its body, its code object known -/
end Lq
namespace Lq
open PySem PySem.Spec PyProof.Rows L2
/-! ### xs[::2] of a list -/
/-! ### range(i, j, 2) -/
end Lq
namespace Lq
open PySem PySem.Spec PyProof.Rows L2
/-! ### tuple(text) as a known tuple -/
end Lq
namespace Lq
open PySem PySem.Spec PyProof.Rows L2
/-! ### x.replace("..", picked by a draw from a row of written texts) -/
/-! #### e.replace("..", f(box, ["..", "..", "..", ".."])) -/
/-! #### an if whose test writes a number: in its body a token is out -/
/-! #### e.split("..") as a list of its own -/
end Lq
namespace Lq
open PySem PySem.Spec PyProof.Rows L2
/-! ### {k: v for .. in .. for .. in ..}, the keys tuples: as data -/
end Lq
namespace Lq
open PySem PySem.Spec PyProof.Rows L2
/-! ### o.m(..), o an instance with slots, m a method of its class: by places, by keywords, by one star -/
/-! #### d[k], k a new tuple; (e, ..), a new tuple -/
end Lq
namespace Lq
open PySem PySem.Spec PyProof.Rows L2
/-! ### __init__: two statements, self.f1 = e1 (a dict), x = list(self.f1.items()), a statement, self.f0 = e2 -/
end Lq
namespace Lq
open PySem PySem.Spec PyProof.Rows PyProof.V L2
/-! ### tuple(a dict) -/
end Lq
namespace Lq
open PySem PySem.Spec PyProof.Rows L2
/-! ### k in x, x an own dict: as a test -/
/-! ### {k: v for .. in .. for .. in ..} with tuples as keys, as a rule -/
end Lq
namespace Lq
open PySem PySem.Spec PyProof.Rows L2
/-! ### a def that draws, given lists that stay the caller's own: what it hands back holds no list -/
end Lq
namespace Lq
open PySem PySem.Spec PyProof.Rows L2
/-! ### lists that a call makes: no list that was there can be handed back, if none is shown -/
def cleanC : Cell → Cell
  | .d x => if x.noL then .d x else .no
  | _ => .no
def cleanR (ρ : Rho) : Rho := ρ.map cleanC
/-- what stands, but for lists -/
def noLs' (S : Hp) : Hp := fun b => match S b with
  | some (.lst _) => none
  | o => o
theorem noLs_some {S : Hp} {b : Addr} {o : HO} (h : noLs' S b = some o) : S b = some o ∧ ∀ vs, o ≠ .lst vs := by
  unfold noLs' at h
  cases q : S b with
  | none => rw [q] at h; cases h
  | some u =>
    rw [q] at h
    cases u with
    | lst vs => cases h
    | _ => cases h; exact ⟨rfl, fun _ z => nomatch z⟩
theorem noLs_of {S : Hp} {b : Addr} {o : HO} (h : S b = some o) (n : ∀ vs, o ≠ .lst vs) : noLs' S b = some o := by
  unfold noLs'
  rw [h]
  cases o with
  | lst vs => exact (n vs rfl).elim
  | _ => rfl
section
variable {K : PySem.W.Frag} {T : Tb} {β : Bt} {G S H : Hp} {σ : L2.St} {ρ : Rho}
theorem noLs_butL : ButL S (noLs' S) := fun b o q n => noLs_of q n
theorem Ok.clean (o : Ok K T β G S σ ρ H) : Ok K T .no (besides (noLs' S) H) (noLs' S) σ (cleanR ρ) H where
  sh := ⟨⟨fun b u q n => o.sh.at_ b u (noLs_some q).1 n, fun b ps q => o.sh.tb b ps (noLs_some q).1⟩, o.sh.tab⟩
  gh := besides_same
  gs := fun b u q _ => besides_apart q
  gb := fun b q => nomatch q
  bx := fun b q => nomatch q
  len := by unfold cleanR; rw [List.length_map]; exact o.len
  cel := fun i c q => by
    unfold cleanR at q
    rw [List.getElem?_map] at q
    cases q0 : ρ[i]? with
    | none => rw [q0] at q; cases q
    | some c0 =>
      rw [q0] at q
      obtain rfl := Option.some.inj q
      cases c0 with
      | d x =>
        by_cases hx : x.noL = true
        · have e : cleanC (.d x) = .d x := by show (if x.noL then Cell.d x else .no) = _; rw [if_pos hx]
          rw [e]
          obtain ⟨u, h1, h2⟩ := o.cel i _ q0
          exact ⟨u, h1, Rp.noL noLs_butL _ _ hx h2⟩
        · have e : cleanC (.d x) = .no := by show (if x.noL then Cell.d x else .no) = _; rw [if_neg hx]
          rw [e]; trivial
      | _ => trivial
  dis := fun i j xs ys q => by
    unfold cleanR at q
    rw [List.getElem?_map] at q
    cases q0 : ρ[i]? with
    | none => rw [q0] at q; cases q
    | some c0 =>
      rw [q0] at q
      have q := Option.some.inj q
      cases c0 with
      | d x =>
        have e : cleanC (.d x) = (if x.noL then Cell.d x else .no) := rfl
        rw [e] at q
        split at q <;> cases q
      | _ => cases q
variable {S2 H2 : Hp} {σ2 : L2.St} {ρ2 : Rho}
theorem fresh_h (o : Ok K T β G S σ ρ H) (o2 : Ok K T .no (besides (noLs' S) H) S2 σ2 ρ2 H2) (e : Same (noLs' S) S2) : Same H H2 := ⟨fun b u q n => by
    cases z : noLs' S b with
    | none => exact o2.gh.at_ b u (besides_of q z) n
    | some u' =>
      obtain ⟨z1, z2⟩ := noLs_some z
      by_cases nt : ∃ ps, u' = .tbl ps
      · obtain ⟨ps, rfl⟩ := nt
        obtain ⟨qs, w⟩ := o.sh.tb b ps z1
        rw [q] at w; cases w; exact (n _ rfl).elim
      · have nt' : NoTb u' := fun ps w => nt ⟨ps, w⟩
        have := o.sh.at_ b u' z1 nt'
        rw [q] at this; cases this
        exact o2.sh.at_ b u (e.at_ b u z n) n, fun b ps q => by
    cases z : noLs' S b with
    | none => exact o2.gh.tb b ps (besides_of q z)
    | some u' =>
      obtain ⟨z1, z2⟩ := noLs_some z
      by_cases nt : ∃ ps, u' = .tbl ps
      · obtain ⟨qs, rfl⟩ := nt
        obtain ⟨rs, w⟩ := e.tb b qs z
        exact o2.sh.tb b rs w
      · have nt' : NoTb u' := fun ps w => nt ⟨ps, w⟩
        have := o.sh.at_ b u' z1 nt'
        rw [q] at this; cases this; exact (nt ⟨ps, rfl⟩).elim⟩
theorem fresh_new (o : Ok K T β G S σ ρ H) (o2 : Ok K T .no (besides (noLs' S) H) S2 σ2 ρ2 H2) (e : Same (noLs' S) S2) {b : Addr} {vs : List V} (h : S2 b = some (.lst vs)) : H b = none := by
  cases q : H b with
  | none => rfl
  | some u =>
    cases z : noLs' S b with
    | none =>
      have hg := besides_of q z
      by_cases nt : ∃ xs, u = .tup xs
      · obtain ⟨xs, rfl⟩ := nt
        have h1 := o2.gh.at_ b _ hg fun _ z => nomatch z
        have h2 := o2.sh.at_ b _ h fun _ z => nomatch z
        rw [h1] at h2; cases h2
      · have := o2.gs b u hg fun xs w => nt ⟨xs, w⟩
        rw [h] at this; cases this
    | some u' =>
      obtain ⟨z1, z2⟩ := noLs_some z
      by_cases nt : ∃ ps, u' = .tbl ps
      · obtain ⟨ps, rfl⟩ := nt
        obtain ⟨qs, w⟩ := e.tb b ps z
        rw [h] at w; cases w
      · have := e.at_ b u' z fun ps w => nt ⟨ps, w⟩
        rw [h] at this; cases this
        exact (z2 _ rfl).elim
end
end Lq
namespace Lq
open PySem PySem.Spec PyProof.Rows L2
/-! ### a, x = e0, e1; u, v, w = e, ..; for own in x: own[1] = 0; x.append(["t", n]): x a new list of new lists, not read behind it -/
def isIS : D → Bool
  | .int _ => true
  | .str _ => true
  | _ => false
def nestOk : D → Bool
  | .lst ys => decide (2 ≤ ys.length) && ys.all isIS
  | _ => false
def plB (ρ : Rho) : Bool := (ρ.set 0 .no).all isPl
def three : List VD → Option (D × D × D)
  | [.d a, .d b, .d c] => some (a, b, c)
  | _ => none
theorem three_of {vs : List VD} {a b c : D} (h : three vs = some (a, b, c)) : vs = [.d a, .d b, .d c] := by
  unfold three at h
  split at h
  · cases h; rfl
  · cases h
def boxC : Option Cell → Option (List Int)
  | some (.b ns) => some ns
  | _ => none
theorem boxC_of {c : Option Cell} {ns : List Int} (h : boxC c = some ns) : c = some (.b ns) := by
  unfold boxC at h
  split at h
  · cases h; rfl
  · cases h
def nestS (i0 i1 j0 j1 j2 io : Nat) (f0 f1 : Rho → R VD) (fs2 : Rho → R (List VD)) : Rho → O := fun ρ => match f0 ρ with
  | .ok (.d x0) ρ1 => (match f1 (cleanR ρ1) with
    | .ok (.d (.lst ls)) _ => if ls.all nestOk && (fits (ls.length + 1) && (plB ρ1 && decide (i1 < ρ1.length) && decide (io < ρ1.length))) then (match fs2 ((ρ1.set i0 (.d x0)).set i1 (.d (.lst ls))) with
      | .ok vs ρ5 => (match three vs with
        | some (y0, y1, y2) => (match boxC ρ5[0]? with
          | some ns => if y0.noL && (y1.noL && y2.noL) then .nx (((((((ρ1.set 0 (.b ns)).set i0 (.d x0)).set i1 .no).set j0 (.d y0)).set j1 (.d y1)).set j2 (.d y2)).set io .no) else .bad
          | none => .bad)
        | none => .bad)
      | _ => .bad) else .bad
    | _ => .bad)
  | _ => .bad
section
variable {K : PySem.W.Frag} {T : Tb} {β : Bt} {G S H : Hp} {σ : L2.St} {ρ : Rho}
def isPB : Cell → Bool
  | .no => true
  | .d _ => true
  | .b _ => true
  | _ => false
/-- a list that nobody keeps is changed -/
theorem Ok.updF (o : Ok K T β G S σ ρ H) (hc : ρ.all isPB = true) {b : Addr} {vs ws : List V} (hS : S b = none) (hG : G b = none) (hb : β ≠ .bx b) (hH : H b = some (.lst vs)) : Ok K T β G S σ ρ (upd H b (.lst ws)) where
  sh := o.sh.step (Keep.upd hH) fun c u q => .inr ⟨q, upd_ne fun z => by subst z; rw [hS] at q; cases q⟩
  gh := o.gh.step fun c u q => .inr ⟨q, upd_ne fun z => by subst z; rw [hG] at q; cases q⟩
  gs := o.gs
  gb := o.gb
  bx := fun c q => by
    rw [upd_ne fun z => hb (by rw [q, z])]
    exact o.bx c q
  len := o.len
  cel := fun i c q => by
    have pl := List.all_eq_true.1 hc c (List.mem_of_getElem? q)
    have h1 := o.cel i c q
    cases c with
    | no => trivial
    | d x => exact h1
    | b ns =>
      obtain ⟨a, e1, e2, e3⟩ := h1
      exact ⟨a, e1, e2, by rw [upd_ne fun z => hb (by rw [e2, z])]; exact e3⟩
    | m xs => cases pl
    | k l => cases pl
    | kt l => cases pl
    | s t => cases pl
    | z => cases pl
  dis := o.dis
theorem all_set {ρ : Rho} {p : Cell → Bool} {i : Nat} {c : Cell} (h : ρ.all p = true) (hc : p c = true) : (ρ.set i c).all p = true := by
  rw [List.all_eq_true] at h ⊢
  intro x hx
  rcases List.mem_or_eq_of_mem_set hx with z | z
  · exact h x z
  · rw [z]; exact hc
theorem ixN_one {α : Type} {xs : List α} (h : 2 ≤ xs.length) : ixN xs.length 1 = some 1 := by
  unfold ixN
  rw [if_pos (by decide), if_pos (by omega)]; rfl
/-- the new lists no longer stand -/
def lessH (S2 S5 : Hp) : Hp := fun b => match S2 b with
  | some (.lst _) => none
  | _ => S5 b
def moreH (S S2 : Hp) : Hp := fun b => match S2 b with
  | some o => some o
  | none => S b
section
variable {S2 H2 : Hp} {σ2 : L2.St} {ρ2 : Rho}
theorem more_ext (o : Ok K T β G S σ ρ H) (o2 : Ok K T .no (besides (noLs' S) H) S2 σ2 ρ2 H2) (e : Same (noLs' S) S2) : Ext T S H (moreH S S2) H2 ∧ Same S2 (moreH S S2) := by
  have hh := fresh_h o o2 e
  have old : ∀ b vs, S b = some (.lst vs) → S2 b = none := fun b vs q => by
    have hq := o.sh.at_ b _ q fun _ z => nomatch z
    have hn : noLs' S b = none := by unfold noLs'; rw [q]
    exact o2.gs b _ (besides_of hq hn) fun _ z => nomatch z
  refine ⟨⟨⟨fun b u q n => ?_, fun b ps q => ?_⟩, hh, ⟨⟨fun b u q n => ?_, fun b ps q => ?_⟩, o2.sh.tab⟩, fun b u q n z => ?_⟩, .of fun b u q => by unfold moreH; rw [q]⟩
  · by_cases nl : ∃ vs, u = .lst vs
    · obtain ⟨vs, rfl⟩ := nl
      unfold moreH; rw [old b vs q]; exact q
    · have := e.at_ b u (noLs_of q fun vs w => nl ⟨vs, w⟩) n
      unfold moreH; rw [this]
  · obtain ⟨qs, w⟩ := e.tb b ps (noLs_of q fun _ z => nomatch z)
    exact ⟨qs, by unfold moreH; rw [w]⟩
  · unfold moreH at q
    cases z : S2 b with
    | none => rw [z] at q; exact hh.at_ b u (o.sh.at_ b u q n) n
    | some u' => rw [z] at q; cases q; exact o2.sh.at_ b _ z n
  · unfold moreH at q
    cases z : S2 b with
    | none =>
      rw [z] at q
      obtain ⟨qs, w⟩ := o.sh.tb b ps q
      exact hh.tb b qs w
    | some u' => rw [z] at q; cases q; exact o2.sh.tb b ps z
  · have hn : noLs' S b = none := by unfold noLs'; rw [z]
    have := o2.gs b u (besides_of q hn) n
    unfold moreH; rw [this]; exact z
/-- behind the calls: the state as it was ahead of the new lists, what came to stand kept -/
theorem less_ok {S5 H5 : Hp} {σ5 : L2.St} {ρ5 : Rho} {ns : List Int} (o : Ok K T β G S σ ρ H) (hpl : plB ρ = true) (o2 : Ok K T .no (besides (noLs' S) H) S2 σ2 ρ2 H2) (e : Same (noLs' S) S2) (e5 : Same (moreH S S2) S5) (o5 : Ok K T β G S5 σ5 ρ5 H5) (h0 : σ5[0]? = σ[0]?) (hb : ρ5[0]? = some (.b ns)) :
    Ok K T β G (lessH S2 S5) σ (ρ.set 0 (.b ns)) H5 ∧ Same S (lessH S2 S5) ∧ ButL S5 (lessH S2 S5) := by
  obtain ⟨x1, s2⟩ := more_ext o o2 e
  have nw : ∀ b vs, S2 b = some (.lst vs) → S b = none := fun b vs q => o.sh.free (fresh_new o o2 e q)
  have sS : Same S (lessH S2 S5) := ⟨fun b u q n => by
      have h5 := e5.at_ b u (x1.s.at_ b u q n) n
      unfold lessH
      cases z : S2 b with
      | none => exact h5
      | some u' => cases u' with
        | lst vs => rw [nw b vs z] at q; cases q
        | _ => exact h5, fun b ps q => by
      obtain ⟨qs, w⟩ := x1.s.tb b ps q
      obtain ⟨rs, w5⟩ := e5.tb b qs w
      refine ⟨rs, ?_⟩
      unfold lessH
      cases z : S2 b with
      | none => exact w5
      | some u' => cases u' with
        | lst vs => rw [nw b vs z] at q; cases q
        | _ => exact w5⟩
  have sub : ∀ b u, lessH S2 S5 b = some u → S5 b = some u := fun b u q => by
    unfold lessH at q
    cases z : S2 b with
    | none => rw [z] at q; exact q
    | some u' => rw [z] at q; cases u' with
      | lst vs => cases q
      | _ => exact q
  have non : ∀ b, S5 b = none → lessH S2 S5 b = none := fun b q => by
    cases z : lessH S2 S5 b with
    | none => rfl
    | some u => rw [sub b u z] at q; cases q
  refine ⟨⟨⟨⟨fun b u q n => o5.sh.at_ b u (sub b u q) n, fun b ps q => o5.sh.tb b ps (sub b _ q)⟩, o5.sh.tab⟩, o5.gh, fun b u q n => non b (o5.gs b u q n), fun b q => ⟨(o5.gb b q).1, non b (o5.gb b q).2⟩, o5.bx, by rw [List.length_set]; exact o.len, fun i c q => ?_, fun i j xs ys q1 q2 z => ?_⟩, sS, fun b u q n => ?_⟩
  · by_cases hi : i = 0
    · subst hi
      have := get_set_eq q
      subst this
      obtain ⟨a, f1, f2, f3⟩ := o5.cel 0 _ hb
      exact ⟨a, by rw [← h0]; exact f1, f2, f3⟩
    · rw [List.getElem?_set_ne (Ne.symm hi)] at q
      have hm : c ∈ ρ.set 0 .no := List.mem_of_getElem? (i := i) (by rw [List.getElem?_set_ne (Ne.symm hi)]; exact q)
      have pl := List.all_eq_true.1 hpl c hm
      have h1 := o.cel i c q
      cases c with
      | no => trivial
      | d x => obtain ⟨u, w1, w2⟩ := h1; exact ⟨u, w1, Rp.mono sS _ _ w2⟩
      | _ => cases pl
  · by_cases hi : i = 0
    · subst hi; cases get_set_eq q1
    · rw [List.getElem?_set_ne (Ne.symm hi)] at q1
      have hm : Cell.m xs ∈ ρ.set 0 .no := List.mem_of_getElem? (i := i) (by rw [List.getElem?_set_ne (Ne.symm hi)]; exact q1)
      have pl := List.all_eq_true.1 hpl _ hm
      cases pl
  · unfold lessH
    cases z : S2 b with
    | none => exact q
    | some u' => cases u' with
      | lst vs =>
        have := e5.at_ b _ (s2.at_ b _ z fun _ w => nomatch w) fun _ w => nomatch w
        rw [q] at this; cases this
        exact (n vs rfl).elim
      | _ => exact q
end
end
theorem rps_IS {K : PySem.W.Frag} {T : Tb} {S : Hp} : ∀ {ys : List D} {vs : List V}, ys.all isIS = true → Rps K T S ys vs → ∀ v ∈ vs, ∀ b, v ≠ .ref b
  | [], _, _, h, v, hv, _ => by rw [show _ = [] from h] at hv; cases hv
  | y :: ys, _, ha, ⟨u, r, e, h, hr⟩, v, hv, b => by
    subst e
    rw [List.all_cons, Bool.and_eq_true] at ha
    rcases List.mem_cons.1 hv with z | z
    · subst z
      cases y with
      | int i => rw [show v = V.int i from h]; exact fun z => nomatch z
      | str i => rw [show v = V.str i from h]; exact fun z => nomatch z
      | _ => cases ha.1
    · exact rps_IS ha.2 hr v z b
theorem nest_refs {K : PySem.W.Frag} {T : Tb} {S : Hp} : ∀ {ls : List D} {us : List V}, ls.all nestOk = true → Rps K T S ls us → ∀ v ∈ us, ∃ b vs, v = .ref b ∧ S b = some (.lst vs) ∧ 2 ≤ vs.length ∧ ∀ z ∈ vs, ∀ c, z ≠ .ref c
  | [], _, _, h, v, hv => by rw [show _ = [] from h] at hv; cases hv
  | y :: ys, _, ha, ⟨u, r, e, h, hr⟩, v, hv => by
    subst e
    rw [List.all_cons, Bool.and_eq_true] at ha
    rcases List.mem_cons.1 hv with z | z
    · subst z
      cases y with
      | lst zs =>
        obtain ⟨b, vs, e, hb, hz⟩ := (show Rp K T S (.lst zs) v from h)
        obtain ⟨a1, a2⟩ := Bool.and_eq_true_iff.mp (show (decide (2 ≤ zs.length) && zs.all isIS) = true from ha.1)
        exact ⟨b, vs, e, hb, by rw [hz.len]; exact of_decide_eq_true a1, rps_IS a2 hz⟩
      | _ => cases ha.1
    · exact nest_refs ha.2 hr v z
section
variable {X : Cx} {T : Tb} {W : WX} {e0 e1 c0 c1 c2 : Expr} {f0 f1 : Rho → R VD} {fs2 : Rho → R (List VD)} {g : Rho → O} {i0 i1 j0 j1 j2 io : Nat}
theorem xb_nest {a x u v w ow t7 : Str} {n8 : Int} {pa px1 pt1 q1 pos1 pu pv pw pt2 q2 pos2 po px2 po2 d5 ps d6 pos3 pos4 px3 apos d7 d8 lp cpos pos5 : Pos} {kt1 k1 kt2 k2 j5 j6 j7 j8 : Nat} {rest : List Stmt} (hp : PassesOwn (model X.prog X.w) X.A X.env X.xe) (hc : X.calm = true) (hN : X.N.Nodup) (h0 : XE X T W e0 f0) (h1 : XE X T W e1 f1) (hs2 : XA X T W [c0, c1, c2] fs2) (h2 : XB X T W rest g)
    (hdj : [0, i0, i1, j0, j1, j2, io].Nodup := by decide)
    (ha : X.N[i0]? = some a := by rfl) (hx : X.N[i1]? = some x := by rfl) (hu : X.N[j0]? = some u := by rfl) (hv : X.N[j1]? = some v := by rfl) (hw : X.N[j2]? = some w := by rfl) (ho : X.N[io]? = some ow := by rfl)
    (la : X.env.scope.names.lookup a = some .local := by rfl) (lx : X.env.scope.names.lookup x = some .local := by rfl) (lu : X.env.scope.names.lookup u = some .local := by rfl) (lv : X.env.scope.names.lookup v = some .local := by rfl) (lw : X.env.scope.names.lookup w = some .local := by rfl) (lo : X.env.scope.names.lookup ow = some .local := by rfl)
    (dx : (x == ("__debug__" : Str)) = false := by decide) (cx : (x == ("__classdict__" : Str)) = false := by decide) (dw : (ow == ("__debug__" : Str)) = false := by decide) (cw : (ow == ("__classdict__" : Str)) = false := by decide)
    (hst1 : starEach [e0, e1] X.env = (false, eval e0 X.env) :: starEach [e1] X.env := by rfl) (hst1b : starEach [e1] X.env = (false, eval e1 X.env) :: starEach [] X.env := by rfl)
    (hw1 : swappedStores [.Tuple [.Name a pa, .Name x px1] kt1 pt1] (.Tuple [e0, e1] k1 q1) X.env = pure (some [a, x]) := by rfl) (hs1 : swapsWithSole [.Tuple [.Name a pa, .Name x px1] kt1 pt1] (.Tuple [e0, e1] k1 q1) pos1.line X.env = pure false := by rfl)
    (hw2 : swappedStores [.Tuple [.Name u pu, .Name v pv, .Name w pw] kt2 pt2] (.Tuple [c0, c1, c2] k2 q2) X.env = pure (some [u, v, w]) := by rfl) (hs2' : swapsWithSole [.Tuple [.Name u pu, .Name v pv, .Name w pw] kt2 pt2] (.Tuple [c0, c1, c2] k2 q2) pos2.line X.env = pure false := by rfl)
    (hf2 : ∀ y, foldedSetIterable (.Name x px2) X.env y = pure y := by intro _; rfl)
    (hsub : ∀ z, assign (.Subscript (.Name ow po2) (.Constant (.int 1) j5 d5) ps) X.env z = (do
      let ov ← holding [z] (eval (.Name ow po2) X.env)
      let iv ← holding [z, ov] (eval (.Constant (.int 1) j5 d5) X.env)
      standAt ps
      holding [z, ov, iv] (setItem ov iv z)
      release [z, ov, iv] []) := by intro _; rfl)
    (hs3 : swapsWithSole [.Subscript (.Name ow po2) (.Constant (.int 1) j5 d5) ps] (.Constant (.int 0) j6 d6) pos3.line X.env = pure false := by rfl) (hw3 : swappedStores [.Subscript (.Name ow po2) (.Constant (.int 1) j5 d5) ps] (.Constant (.int 0) j6 d6) X.env = pure none := by rfl)
    (h13 : (assignEach [.Subscript (.Name ow po2) (.Constant (.int 1) j5 d5) ps] X.env).map (·.2) = [assign (.Subscript (.Name ow po2) (.Constant (.int 1) j5 d5) ps) X.env] := by rfl)
    (hbase : attributeBase (.Name x px3) "append" X.env (eval (.Name x px3) X.env) = eval (.Name x px3) X.env := by rfl)
    (hfew : ((backTo cpos (starEach [.List [.Constant (.str t7) j7 d7, .Constant (.int n8) j8 d8] lp] X.env)).all (fun x => !x.1) && (backToKw cpos (keywordEach [] X.env)).all (fun x => x.1.isSome) && decide ([Expr.List [.Constant (.str t7) j7 d7, .Constant (.int n8) j8 d8] lp].length + ([] : List Keyword).length + (if ([] : List Keyword).isEmpty then 0 else 1) < 30)) = true := by rfl)
    (hline : (apos.endLine == cpos.line) = true := by rfl) (hs5 : starEach [.List [.Constant (.str t7) j7 d7, .Constant (.int n8) j8 d8] lp] X.env = (false, eval (.List [.Constant (.str t7) j7 d7, .Constant (.int n8) j8 d8] lp) X.env) :: starEach [] X.env := by rfl) (hplain : (backTo cpos (starEach [] X.env)).any (·.1) = false := by rfl)
    (hs6 : starEach [.Constant (.str t7) j7 d7, .Constant (.int n8) j8 d8] X.env = (false, eval (.Constant (.str t7) j7 d7) X.env) :: starEach [.Constant (.int n8) j8 d8] X.env := by rfl) (hs7 : starEach [.Constant (.int n8) j8 d8] X.env = (false, eval (.Constant (.int n8) j8 d8) X.env) :: starEach [] X.env := by rfl)
    (hw4 : swapsWith (.Call (.Attribute (.Name x px3) "append" apos) [.List [.Constant (.str t7) j7 d7, .Constant (.int n8) j8 d8] lp] [] cpos) none pos5.line X.env = pure false := by rfl) :
    XB X T W (.Assign [.Tuple [.Name a pa, .Name x px1] kt1 pt1] (.Tuple [e0, e1] k1 q1) pos1 :: .Assign [.Tuple [.Name u pu, .Name v pv, .Name w pw] kt2 pt2] (.Tuple [c0, c1, c2] k2 q2) pos2 ::
      .For (.Name ow po) (.Name x px2) [.Assign [.Subscript (.Name ow po2) (.Constant (.int 1) j5 d5) ps] (.Constant (.int 0) j6 d6) pos3] [] pos4 ::
      .Expr (.Call (.Attribute (.Name x px3) "append" apos) [.List [.Constant (.str t7) j7 d7, .Constant (.int n8) j8 d8] lp] [] cpos) pos5 :: rest) (seqS (nestS i0 i1 j0 j1 j2 io f0 f1 fs2) g) := by
  have vis : ∀ {y : Str}, X.env.scope.names.lookup y = some .local → Vis X.env.scope y := fun h => by first | exact Or.inl h | exact Or.inr (Or.inl h) | exact Or.inr (Or.inr h)
  have loc : ∀ {y : Str}, X.env.scope.names.lookup y = some .local → Loc X.env.scope y := fun h => by first | exact Or.inl h | exact Or.inr h
  have n : i0 ≠ i1 ∧ j0 ≠ j1 ∧ j0 ≠ j2 ∧ j1 ≠ j2 := by
    simp only [List.nodup_cons, List.mem_cons, List.mem_nil_iff, not_or, or_false] at hdj
    obtain ⟨_, ⟨a1, _⟩, _, ⟨b1, b2, _⟩, ⟨c1, _⟩, _⟩ := hdj
    exact ⟨a1, b1, b2, c1⟩
  refine (pss_cons (ps_par hc hN ha hx n.1 la lx (pa_cons h0 (pa_cons h1 pa_nil hst1b) hst1) hw1 hs1) (pss_cons (ps_par3 hc hN hu hv hw n.2.1 n.2.2.1 n.2.2.2 lu lv lw hs2 hw2 hs2')
    (pss_cons (ps_for hp hc (pi_list (pe_var hx (vis lx) dx cx)) (pg_name hN ho (loc lo) (.inr lo)) (pss_one (ps_asg pe_int (pg_sub (pe_var ho (vis lo) dw cw) pe_int set_list hsub) hs3 hw3 h13)) hf2)
    (pss_cons (ps_expr (pe_bm PySem.F.plainAttrs_list PySem.F.slot_list_append PySem.F.type_list_append mt_append (pe_var hx (vis lx) dx cx) (pa_cons (pe_lst (pa_cons pe_str (pa_cons pe_int pa_nil hs7) hs6)) pa_nil hs5) hbase hfew hline hs5 hplain) hw4) h2)))).impQ fun De σ H q => ?_
  obtain ⟨β, G, S, ρ, o, p⟩ := q
  refine ⟨β, G, S, ρ, o, ?_⟩
  unfold seqS nestS at p
  revert p
  cases f0 ρ with
  | bad => exact fun p => p.elim
  | err y ρ1 => exact fun p => p.elim
  | ok v0 ρ1 =>
  intro p S1 H1 u0 e1 o1 r0
  cases v0 with
  | sl j => exact p.elim
  | d x0 =>
  dsimp only at p
  refine ⟨.no, _, _, cleanR ρ1, o1.clean, ?_⟩
  revert p
  cases f1 (cleanR ρ1) with
  | bad => exact fun p => p.elim
  | err y ρ2 => exact fun p => p.elim
  | ok v1 ρ2 =>
  intro p S2 H2 u1 e2 o2 r1
  cases v1 with
  | sl j => exact p.elim
  | d x1 =>
  cases x1 with
  | lst ls =>
    dsimp only at p
    by_cases hif : (ls.all nestOk && (fits (ls.length + 1) && (plB ρ1 && decide (i1 < ρ1.length) && decide (io < ρ1.length)))) = true
    · rw [if_pos hif] at p
      rw [Bool.and_eq_true, Bool.and_eq_true, Bool.and_eq_true, Bool.and_eq_true] at hif
      obtain ⟨hok, hfit, ⟨hpl, hlt⟩, hlt2⟩ := hif
      obtain ⟨q, us, rfl, hq, hus⟩ := (show Rp X.K T S2 (.lst ls) u1 from r1)
      obtain ⟨x3, s2⟩ := more_ext o1 o2 e2
      have o3 := o1.ext x3
      have o4 := (o3.setD (i := i0) (Rp.mono x3.s _ _ (show Rp X.K T S1 x0 u0 from r0))).setD (i := i1) (x := .lst ls) (v := .ref q) ⟨q, us, rfl, s2 _ _ hq, Rps.mono s2 _ _ hus⟩
      refine ⟨u0, .ref q, rfl, β, G, _, _, o4, ?_⟩
      revert p
      cases fs2 ((ρ1.set i0 (.d x0)).set i1 (.d (.lst ls))) with
      | bad => exact fun p => p.elim
      | err y ρ5 => exact fun p => p.elim
      | ok vs ρ5 =>
      intro p S5 H5 ws e5 o5 rw5
      dsimp only at p
      cases hth : three vs with
      | none => rw [hth] at p; exact p.elim
      | some yy =>
      obtain ⟨y0, y1, y2⟩ := yy
      rw [hth] at p
      dsimp only at p
      cases hbx : boxC ρ5[0]? with
      | none => rw [hbx] at p; exact p.elim
      | some ns =>
      rw [hbx] at p
      dsimp only at p
      by_cases hnl : (y0.noL && (y1.noL && y2.noL)) = true
      case neg => rw [if_neg hnl] at p; exact p.elim
      rw [if_pos hnl] at p
      rw [Bool.and_eq_true, Bool.and_eq_true] at hnl
      obtain ⟨n0, n1, n2⟩ := hnl
      have := three_of hth
      subst this
      obtain ⟨w0, wr, rfl, r50, w1, wr2, rfl, r51, w2, wr3, rfl, r52, hnil⟩ := rw5
      obtain rfl : wr3 = [] := hnil
      simp only [List.nodup_cons, List.mem_cons, List.mem_nil_iff, not_or, or_false] at hdj
      obtain ⟨⟨z1, z2, z3, z4, z5, z6⟩, ⟨k1, k2, k3, k4, k5⟩, ⟨l1, l2, l3, l4⟩, ⟨m1, m2, m3⟩, ⟨q1', q2'⟩, q3', _⟩ := hdj
      have hs0 : ((σ.set i0 (some u0)).set i1 (some (V.ref q)))[0]? = σ[0]? := by rw [List.getElem?_set_ne (Ne.symm z2), List.getElem?_set_ne (Ne.symm z1)]
      obtain ⟨oB, sB, bB⟩ := less_ok o1 hpl o2 e2 e5 o5 hs0 (boxC_of hbx)
      have oF := ((((((oB.setD (i := i0) (Rp.mono sB _ _ (show Rp X.K T S1 x0 u0 from r0))).setN (i := i1) (v := some (.ref q))).setD (i := j0) (Rp.noL bB _ _ n0 r50)).setD (i := j1) (Rp.noL bB _ _ n1 r51)).setD (i := j2) (Rp.noL bB _ _ n2 r52)).setN (i := io) (v := none))
      refine ⟨w0, w1, w2, rfl, ?_⟩
      have hH1 : ∀ b vs, S2 b = some (.lst vs) → H1 b = none := fun b vs z => fresh_new o1 o2 e2 z
      have hq5 : H5 q = some (.lst us) := o5.sh q _ (e5 q _ (s2 q _ hq))
      have nr := nest_refs hok hus
      have fresh : ∀ b vs, S2 b = some (.lst vs) → lessH S2 S5 b = none ∧ G b = none ∧ β ≠ .bx b := fun b vs z => by
        have hn := hH1 b vs z
        refine ⟨by unfold lessH; rw [z], o1.gh.free hn, fun e => ?_⟩
        obtain ⟨u', w', _⟩ := o1.bx b e
        rw [hn] at w'; cases w'
      have hin : ∀ v ∈ us, ∃ b vs, v = .ref b ∧ b ≠ q ∧ S2 b = some (.lst vs) ∧ H5 b = some (.lst vs) ∧ 2 ≤ vs.length := fun v hv => by
        obtain ⟨b, vs, e, hb, h2', hz⟩ := nr v hv
        refine ⟨b, vs, e, fun z => ?_, hb, o5.sh b _ (e5 b _ (s2 b _ hb)), h2'⟩
        subst z
        rw [hq] at hb
        cases hb
        exact hz v hv b e
      generalize hρF : (((((((ρ1.set 0 (Cell.b ns)).set i0 (.d x0)).set i1 .no).set j0 (.d y0)).set j1 (.d y1)).set j2 (.d y2)).set io .no) = ρF at *
      have hno : ρF.set io .no = ρF := by rw [← hρF, List.set_set]
      have hall : ρF.all isPB = true := by
        rw [← hρF]
        refine all_set (all_set (all_set (all_set (all_set (all_set ?_ rfl) rfl) rfl) rfl) rfl) rfl
        rw [List.all_eq_true]
        intro c hc
        obtain ⟨j, hj⟩ := List.mem_iff_getElem?.1 hc
        by_cases h00 : j = 0
        · subst h00
          rw [get_set_eq hj]; rfl
        · rw [List.getElem?_set_ne (Ne.symm h00)] at hj
          have hm : c ∈ ρ1.set 0 .no := List.mem_of_getElem? (i := j) (by rw [List.getElem?_set_ne (Ne.symm h00)]; exact hj)
          have := List.all_eq_true.1 hpl c hm
          cases c with
          | no => rfl
          | d x => rfl
          | _ => cases this
      have lF : ρF.length = ρ1.length := by rw [← hρF]; simp only [List.length_set]
      have ioL : io < ρ1.length := of_decide_eq_true hlt2
      have i1L : i1 < ρ1.length := of_decide_eq_true hlt
      have len6 := oF.len
      rw [List.length_set] at len6
      generalize hσ6 : (((((σ.set i0 (some u0)).set i1 (some (V.ref q))).set j0 (some w0)).set j1 (some w1)).set j2 (some w2)) = σ6 at *
      have g6 : σ6[i1]? = some (some (.ref q)) := by
        rw [← hσ6, List.getElem?_set_ne (Ne.symm l3), List.getElem?_set_ne (Ne.symm l2), List.getElem?_set_ne (Ne.symm l1), List.getElem?_set_self]
        rw [List.length_set, o1.len]; exact i1L
      have back : ∀ {σ' : L2.St} {H' : Hp}, Ok X.K T β G (lessH S2 S5) (σ'.set io none) ρF H' → Ok X.K T β G (lessH S2 S5) σ' ρF H' := fun {σ' H'} ok => by
        have hl : io < σ'.length := by
          have := ok.len
          rw [List.length_set] at this
          rw [this, lF]; exact ioL
        have z := ok.setN (i := io) (v := σ'[io])
        rw [List.set_set, List.set_getElem_self, hno] at z
        exact z
      refine ⟨.ref q, g6, q, rfl, ⟨us, SqL.of hq5⟩, fun i m σ' H' => m = us.length - i ∧ i ≤ us.length ∧ Ok X.K T β G (lessH S2 S5) (σ'.set io none) ρF H' ∧ σ'[i1]? = some (some (.ref q)) ∧ H' q = some (.lst us) ∧ ∀ v ∈ us, ∃ b vs, v = .ref b ∧ b ≠ q ∧ (∃ ws, S2 b = some (.lst ws)) ∧ H' b = some (.lst vs) ∧ 2 ≤ vs.length,
        ⟨_, rfl, Nat.zero_le _, oF, g6, hq5, fun v hv => by obtain ⟨b, vs, a1, a2, a3, a4, a5⟩ := hin v hv; exact ⟨b, vs, a1, a2, ⟨vs, a3⟩, a4, a5⟩⟩, ?_⟩
      rintro i m σ' H' ⟨rfl, hi, ok, gi, hq', hin'⟩
      by_cases hlt3 : i < us.length
      · refine .inr ⟨⟨us, us[i], SqL.of hq', List.getElem?_eq_getElem hlt3⟩, fun σ2 H2' => Ok X.K T β G (lessH S2 S5) (σ2.set io none) ρF H2' ∧ σ2[i1]? = some (some (.ref q)) ∧ H2' q = some (.lst us) ∧ ∀ v ∈ us, ∃ b vs, v = .ref b ∧ b ≠ q ∧ (∃ ws, S2 b = some (.lst ws)) ∧ H2' b = some (.lst vs) ∧ 2 ≤ vs.length, ?_, ?_⟩
        · rintro σ2 H2' ⟨b1, b2, b3, b4⟩
          exact ⟨us.length - (i + 1), by omega, rfl, hlt3, b1, b2, b3, b4⟩
        · rintro y H3 ⟨rfl, hy⟩
          have ey := hy us (SqL.of hq')
          have hm := List.mem_of_getElem? ey
          obtain ⟨b, vs, rfl, hbq, ⟨ws, hS⟩, hb, h2'⟩ := hin' y hm
          obtain ⟨f1', f2', f3'⟩ := fresh b ws hS
          have hl : io < σ'.length := by
            have := ok.len
            rw [List.length_set] at this
            rw [this, lF]; exact ioL
          refine ⟨.ref b, List.getElem?_set_self hl, b, vs, 1, 1, rfl, rfl, hb, ixN_one h2', ?_, ?_, ?_, fun v hv => ?_⟩
          · rw [List.set_set]; exact ok.updF hall f1' f2' f3' hb
          · rw [List.getElem?_set_ne (Ne.symm l4)]; exact gi
          · rw [upd_ne (Ne.symm hbq)]; exact hq'
          · obtain ⟨b2, vs2, c1', c2', c3', c4', c5'⟩ := hin' v hv
            by_cases hbb : b2 = b
            · subst hbb
              exact ⟨b2, _, c1', c2', c3', upd_same, by rw [List.length_set]; exact h2'⟩
            · exact ⟨b2, vs2, c1', c2', c3', by rw [upd_ne hbb]; exact c4', c5'⟩
      · refine .inl ⟨⟨us, SqL.of hq', by omega⟩, ?_⟩
        obtain ⟨f1', f2', f3'⟩ := fresh q us hq
        refine ⟨.ref q, gi, .inl ⟨rfl, us, SqL.of hq'⟩, by rw [sizeLine_eq]; exact Nat.le_of_ble_eq_true rfl, fun k hk => ?_⟩
        have hkq : q ≠ k := fun z => by rw [← z, hq'] at hk; cases hk
        have o9 := (back ok).ext (Ext.skip (o := .lst [.str t7, .int n8]) ok.sh hk)
        have hq9 : upd H' k (.lst [.str t7, .int n8]) q = some (.lst us) := by rw [upd_ne hkq]; exact hq'
        refine ⟨q, us, .ref k, rfl, rfl, hq9, ?_, β, G, lessH S2 S5, ρF, o9.updF hall f1' f2' f3' hq9, PostS.mono p (e1.trans sB)⟩
        rw [hus.len]; exact Nat.lt_of_succ_le (fits_line hfit)
    · rw [if_neg hif] at p; exact p.elim
  | _ => exact p.elim
end
theorem ev_nest {i0 i1 j0 j1 j2 io : Nat} {f0 f1 : Rho → R VD} {fs2 : Rho → R (List VD)} {ρ ρ1 ρ2 ρ5 ρ9 : Rho} {x0 y0 y1 y2 : D} {ls : List D} {ns : List Int} (h0 : f0 ρ = .ok (.d x0) ρ1) (h1 : f1 (cleanR ρ1) = .ok (.d (.lst ls)) ρ2) (hi : (ls.all nestOk && (fits (ls.length + 1) && (plB ρ1 && decide (i1 < ρ1.length) && decide (io < ρ1.length)))) = true)
    (h2 : fs2 ((ρ1.set i0 (.d x0)).set i1 (.d (.lst ls))) = .ok [.d y0, .d y1, .d y2] ρ5) (hb : ρ5[0]? = some (.b ns)) (hn : (y0.noL && (y1.noL && y2.noL)) = true) (hr : ((((((ρ1.set 0 (.b ns)).set i0 (.d x0)).set i1 .no).set j0 (.d y0)).set j1 (.d y1)).set j2 (.d y2)).set io .no = ρ9) : nestS i0 i1 j0 j1 j2 io f0 f1 fs2 ρ = .nx ρ9 := by
  simp only [nestS, h0, h1, hi, if_true, h2, three, hb, boxC, hn, hr]
end Lq
namespace Lq
open PySem PySem.Spec PyProof.Rows L2
/-! ### own == of an instance with slots, beside a tuple or None -/
def isTx (t : Nat) : D → Option D
  | .obj t' fs => isTD t (.obj t' fs)
  | .tup _ => some (.bl false)
  | .non => some (.bl false)
  | _ => none
theorem tyX_tup {K : PySem.W.Frag} {H : Hp} {a : Addr} {vs : List V} (h : SqT K H a vs) : TyX K H (.ref a) (.type "tuple") := by
  rcases h with (h | ⟨o, h⟩) | h
  · exact .base (.tup h)
  · exact .fTuple h
  · obtain ⟨o, _, _, h1, h2, _⟩ := h
    exact .kTuple h1 h2
section
variable {X : Cx} {T : Tb} {W : WX} {t : Nat} {e : Expr} {fa : Rho → R VD} {p p2 pos : Pos}
theorem tyX_data {K : PySem.W.Frag} {S H : Hp} {d : D} {x : V} (e : SameT T S H) (hx : RpH K T S H d x) : (∀ ds, d = .tup ds → TyX K H x (.type "tuple")) ∧ (d = .non → TyX K H x (.type "NoneType")) := by
  refine ⟨fun ds h => ?_, fun h => ?_⟩
  · subst h
    rcases hx with h | ⟨_, _, _, _, z, _⟩
    · obtain ⟨a, vs, rfl, hs, _⟩ := (show Rp K T S (.tup ds) x from h)
      exact tyX_tup (same_tup e hs)
    · cases z
  · subst h
    rcases hx with h | ⟨_, _, _, _, z, _⟩
    · cases (show x = .non from h)
      exact .base .non
    · cases z
theorem xe_isTx {x : Str} (ht : isSl t = true) (sc : SlX.SCls X.K (T t)) (si : SlX.SIsi X.K (T t)) (hk : PySem.W.kitOne X.K (.ref (T t)) (.ref (T t)) = some true) (hkt : PySem.W.kitOne X.K (.type "tuple") (.ref (T t)) = some false) (hkn : PySem.W.kitOne X.K (.type "NoneType") (.ref (T t)) = some false) (hz : X.mg "isinstance" = none) (hm : X.mg x = some (.ref (T t))) (ha : XE X T W e fa) (hgx : L2.Gl X x := by rfl) (hdx : (x == ("__debug__" : Str)) = false := by decide)
    (hg : L2.Gl X "isinstance" := by rfl) (he : starEach [e, .Name x p2] X.env = (false, eval e X.env) :: starEach [.Name x p2] X.env := by rfl) (he2 : starEach [.Name x p2] X.env = (false, eval (.Name x p2) X.env) :: starEach [] X.env := by rfl) :
    XE X T W (.Call (.Name "isinstance" p) [e, .Name x p2] [] pos) (op1E (isTx t) fa) :=
  (pe_callB (CallR.or (SlX.call_isiSl (.ref (T t))) call_isi) hg hz (by decide +kernel) (pa_cons ha (pa_cons (pe_glob (v := .ref (T t)) hgx hm rfl hdx) pa_nil he2) he) (by decide) (by decide) he (by rw [he2]; rfl)).impQ fun σ H Q h => by
    obtain ⟨β, G, S, ρ, o, p⟩ := h
    refine ⟨β, G, S, ρ, o, Post.thn (Rl := RpV X.K T σ) p fun S1 H1 ρ1 v u e1 o1 h1 p1 => ?_⟩
    refine Post.lift1 (r := fun x H1 Q => SlX.rIsiSl X.K (.ref (T t)) [x, .ref (T t)] H1 Q ∨ rIsi X.K [x, .ref (T t)] H1 Q) ?_ o1 h1 p1
    intro S H x dx d Q e hx hd g
    unfold isTx at hd
    split at hd
    · rename_i t' fs
      unfold isTD at hd
      dsimp only at hd
      split at hd
      · rename_i hh
        subst hh
        cases hd
        obtain ⟨a, dx', vs, rfl, sl, _, rp⟩ := obj_at ht e hx
        exact .inl ⟨a, _, dx', _, .ref (T t'), true, rfl, rfl, fun _ z => z, sl, sc, si, hk, g.now e rfl⟩
      · cases hd
    · cases hd
      exact .inr ⟨x, .ref (T t), _, .ref (T t), false, rfl, .own _, (tyX_data e hx).1 _ rfl, hkt, g.now e rfl⟩
    · cases hd
      exact .inr ⟨x, .ref (T t), _, .ref (T t), false, rfl, .own _, (tyX_data e hx).2 rfl, hkn, g.now e rfl⟩
    · cases hd
/-- x == y, y a tuple or None -/
def eqTx (t : Nat) (F : List D → Res) : D → D → Option D
  | .obj t1 fs, .tup ys => if t1 = t then (match F [.obj t1 fs, .tup ys] with | .ok (.bl k) => some (.bl k) | _ => none) else none
  | .obj t1 fs, .non => if t1 = t then (match F [.obj t1 fs, .non] with | .ok (.bl k) => some (.bl k) | _ => none) else none
  | x, y => eqTD t F x y
def rOwnX (K : PySem.W.Frag) (C : Addr) (sp : Sp) (E : L2.XK) : R2 := fun x y H Q => ∃ a dx vs ty, x = .ref a ∧ SlX.Slt H a C dx vs ∧ TyX K H y (.type ty) ∧ PySem.W.notFirst K C (.type ty) = true ∧ sp [x, y] H Q E
theorem op_ownX {op : CmpOp} {C g : Addr} {n : Nat} {sp : Sp} {E : L2.XK} (hop : ∀ a b, compareOp op a b = richCompare op a b) (hs : PySem.W.findIn X.K (.ref C) (cmpInfo op).2.1 = some (some (.ref g))) (hf : PySem.W.isFn X.K (.ref g) = true) (F : FnR X.prog X.w X.K X.mg X.base (L2.CX X.prog X.w) n g sp)
    (hr : Room n X.A) (hx : Passes (L2.CX X.prog X.w) X E) : OpR X (compareOp op) (rOwnX X.K C sp E) := by
  intro pins s σ H x y v u Q I rx ry h
  obtain ⟨a, dx, vs, ty, rfl, ha, hy, hn, q⟩ := h
  cases (show v = Value.ref a from rx)
  obtain ⟨sl, od, _, J, _⟩ := SlX.slt_inst I ha
  obtain ⟨Pd, Z, pz, _⟩ := kit_of I ry hy
  obtain ⟨m, hF⟩ := I.fr
  rw [hop]
  refine PySem.W.cmp_K (op := op) (tb := .type ty) hr.units0 hF I.ok.mod.kin J (Z.ty _ _ I.kIn pz) hn hs hf ?_
  refine wpAny_mono (wpAny_call (run_fnR (us := [.ref a, u]) (vs := [.ref a, y]) F hr hx I (.cons rfl (.cons ry .nil)) q)) (fun w s' z => ?_) fun _ _ x => x
  obtain ⟨z', H', I', rz, qz⟩ := z
  exact SlX.cmpback rz ⟨z', H', I', rz, qz⟩
def rEqTx (K : PySem.W.Frag) (T : Tb) (t : Nat) (F : List D → Res) : R2 := fun x y H Q => rOwnX K (T t) (fun vs H Q E => spP K T 2 F (vs ++ []) H Q E) (fun _ _ _ => False) x y H Q ∨ rEqT K T t F x y H Q
theorem op_eqTx {g : Addr} {F : List D → Res} {k : Nat} {fd : FuncData} {ps : List Str} (m : MethF X.K (T t) "__eq__" g) (Fk : FnOk X.prog X.w X.K X.mg X.base (L2.CX X.prog X.w) k g fd ps (spP X.K T 2 F)) (hb2 : Binds X.K fd ps []) (hr : Room k X.A) (hu : X.A.units + 64 < cLine) :
    OpR X (compareOp .Eq) (rEqTx X.K T t F) :=
  (op_ownX (op := .Eq) (fun _ _ => rfl) m.at_ m.fn (Fk.raw hb2 .nil) hr (fun _ _ _ _ _ _ _ z => (cx_no z).elim)).or (op_eqT m Fk hb2 hr hu)
theorem p_eqTx {K : PySem.W.Frag} {F : List D → Res} (ht : isSl t = true) (hn : PySem.W.notFirst K (T t) (.ref (T t)) = true) (hnt : PySem.W.notFirst K (T t) (.type "tuple") = true) (hnn : PySem.W.notFirst K (T t) (.type "NoneType") = true) : Prim2 K T (rEqTx K T t F) (eqTx t F) := fun S H x y dx dy d Q e hx hy h g => by
  unfold eqTx at h
  split at h
  · rename_i t1 fs ys
    split at h
    · rename_i hh
      subst hh
      split at h
      · rename_i k hF
        cases h
        obtain ⟨a, dx', vs, rfl, sl, _, rp⟩ := obj_at ht e hx
        rcases hy with hy | ⟨_, _, _, _, z, _⟩
        · exact .inl ⟨a, dx', _, "tuple", rfl, sl, (tyX_data e (.inl hy)).1 _ rfl, hnt, S, [.obj _ fs, .tup ys], e, ⟨_, _, rfl, rp, _, [], rfl, hy, rfl⟩, rfl, by rw [hF]; exact g⟩
        · cases z
      · cases h
    · cases h
  · rename_i t1 fs
    split at h
    · rename_i hh
      subst hh
      split at h
      · rename_i k hF
        cases h
        obtain ⟨a, dx', vs, rfl, sl, _, rp⟩ := obj_at ht e hx
        rcases hy with hy | ⟨_, _, _, _, z, _⟩
        · exact .inl ⟨a, dx', _, "NoneType", rfl, sl, (tyX_data e (.inl hy)).2 rfl, hnn, S, [.obj _ fs, .non], e, ⟨_, _, rfl, rp, _, [], rfl, hy, rfl⟩, rfl, by rw [hF]; exact g⟩
        · cases z
      · cases h
    · cases h
  · exact .inr (p_eqT ht hn S H x y dx dy d Q e hx hy h g)
end
end Lq
namespace Lw
open PySem PySem.Spec PyProof.Rows L2 Lq
def topS (i : Nat) : Stmt := PySem.Challenge.pw_heirturns_k07_turns_by_their_runs.main.body.getD i (.Pass ⟨0, 0, 0, 0⟩)
abbrev s_is_number : Stmt := topS 7
abbrev s_tupled : Stmt := topS 8
abbrev s_number_in : Stmt := topS 9
abbrev s_run_text : Stmt := topS 16
abbrev s_runs_text : Stmt := topS 17
abbrev s_run_in : Stmt := topS 18
abbrev s_runs_from : Stmt := topS 19
abbrev s_joined_runs : Stmt := topS 24
abbrev s_ends_of : Stmt := topS 25
abbrev s_is_run : Stmt := topS 26
abbrev s_is_runs : Stmt := topS 27
abbrev s_T_init : Stmt := clsAt (topS 23) 1
abbrev s_T_runs : Stmt := clsAt (topS 23) 3
abbrev s_backwards : Stmt := topS 28
abbrev s_swapped : Stmt := topS 29
abbrev s_law_box : Stmt := topS 31
abbrev s_law_take : Stmt := topS 32
abbrev s_law_cells : Stmt := topS 33
abbrev s_law_of : Stmt := topS 34
abbrev s_law_same : Stmt := topS 35
abbrev s_law_lists : Stmt := topS 36
abbrev s_law_much : Stmt := topS 37
abbrev s_law_bits : Stmt := topS 38
abbrev s_law_joined : Stmt := topS 39
abbrev s_T_size : Stmt := clsAt (topS 23) 4
abbrev s_T_hers : Stmt := clsAt (topS 23) 5
abbrev s_T_his : Stmt := clsAt (topS 23) 6
abbrev s_T_ends : Stmt := clsAt (topS 23) 7
abbrev s_T_len : Stmt := clsAt (topS 23) 9
abbrev s_law_shown : Stmt := topS 40
abbrev s_law_kept : Stmt := topS 41
abbrev s_law_due : Stmt := topS 42
abbrev s_law_kinds_right : Stmt := topS 44
abbrev s_T_eq : Stmt := clsAt (topS 23) 13
abbrev s_T_add : Stmt := clsAt (topS 23) 12
abbrev s_law_by_hand_right : Stmt := topS 43
abbrev s_law_case_right : Stmt := topS 45
abbrev s_law_right : Stmt := topS 46
abbrev s_law : Stmt := topS 47
abbrev si_BadRun : Stmt := clsAt (topS 2) 0
abbrev si_BadText : Stmt := clsAt (topS 3) 0
abbrev si_NoPlace : Stmt := clsAt (topS 4) 0
/-- what stands behind the top -/
structure Tx (K : PySem.W.Frag) (mg : Str → Option Value) (T : Tb) where
  fI_T : Addr
  fd_T : FuncData
  d0_T : Addr
  pT0 : Addr
  pT1 : Addr
  FT : FunU K T "__init__" "Turns.__init__" s_T_init d0_T fI_T fd_T
  gT : mg "Turns" = some (.ref (T 20))
  mT : Mk K (T 20) fI_T
  scT : SlX.SCls K (T 20)
  sT0 : SlX.Slot1 K (T 20) "own_ends" pT0 0
  sT1 : SlX.Slot1 K (T 20) "own_runs" pT1 1
  siT : SlX.SIsi K (T 20)
  kiT : PySem.W.kitOne K (.ref (T 20)) (.ref (T 20)) = some true
  nfT : PySem.W.notFirst K (T 20) (.ref (T 20)) = true
  neT : PySem.W.findIn K (.ref (T 20)) "__ne__" = some (some (.builtin "object.__ne__"))
  moT : PySem.W.mroIn K (T 20) (.type "object") = some true
  ktT : PySem.W.kitOne K (.type "tuple") (.ref (T 20)) = some false
  knT : PySem.W.kitOne K (.type "NoneType") (.ref (T 20)) = some false
  ntT : PySem.W.notFirst K (T 20) (.type "tuple") = true
  nnT : PySem.W.notFirst K (T 20) (.type "NoneType") = true
  sfT : PySem.W.selfFirst K (T 20) = true
  a_is_number : Addr
  d_is_number : FuncData
  F_is_number : Fun K "is_number" "is_number" s_is_number a_is_number d_is_number
  g_is_number : mg "is_number" = some (.ref a_is_number)
  a_tupled : Addr
  d_tupled : FuncData
  F_tupled : Fun K "tupled" "tupled" s_tupled a_tupled d_tupled
  g_tupled : mg "tupled" = some (.ref a_tupled)
  a_number_in : Addr
  d_number_in : FuncData
  F_number_in : Fun K "number_in" "number_in" s_number_in a_number_in d_number_in
  g_number_in : mg "number_in" = some (.ref a_number_in)
  a_run_text : Addr
  d_run_text : FuncData
  F_run_text : Fun K "run_text" "run_text" s_run_text a_run_text d_run_text
  g_run_text : mg "run_text" = some (.ref a_run_text)
  a_runs_text : Addr
  d_runs_text : FuncData
  F_runs_text : Fun K "runs_text" "runs_text" s_runs_text a_runs_text d_runs_text
  g_runs_text : mg "runs_text" = some (.ref a_runs_text)
  a_run_in : Addr
  d_run_in : FuncData
  F_run_in : Fun K "run_in" "run_in" s_run_in a_run_in d_run_in
  g_run_in : mg "run_in" = some (.ref a_run_in)
  a_runs_from : Addr
  d_runs_from : FuncData
  F_runs_from : Fun K "runs_from" "runs_from" s_runs_from a_runs_from d_runs_from
  g_runs_from : mg "runs_from" = some (.ref a_runs_from)
  a_joined_runs : Addr
  d_joined_runs : FuncData
  F_joined_runs : Fun K "joined_runs" "joined_runs" s_joined_runs a_joined_runs d_joined_runs
  g_joined_runs : mg "joined_runs" = some (.ref a_joined_runs)
  a_ends_of : Addr
  d_ends_of : FuncData
  F_ends_of : Fun K "ends_of" "ends_of" s_ends_of a_ends_of d_ends_of
  g_ends_of : mg "ends_of" = some (.ref a_ends_of)
  a_is_run : Addr
  d_is_run : FuncData
  F_is_run : Fun K "is_run" "is_run" s_is_run a_is_run d_is_run
  g_is_run : mg "is_run" = some (.ref a_is_run)
  a_is_runs : Addr
  d_is_runs : FuncData
  F_is_runs : Fun K "is_runs" "is_runs" s_is_runs a_is_runs d_is_runs
  g_is_runs : mg "is_runs" = some (.ref a_is_runs)
  a_T_runs : Addr
  d_T_runs : FuncData
  F_T_runs : Fun K "runs" "Turns.runs" s_T_runs a_T_runs d_T_runs
  p_T_runs : Addr
  pf_T_runs : PropF K (T 20) "runs" p_T_runs a_T_runs
  a_backwards : Addr
  d_backwards : FuncData
  F_backwards : Fun K "backwards" "backwards" s_backwards a_backwards d_backwards
  g_backwards : mg "backwards" = some (.ref a_backwards)
  a_swapped : Addr
  d_swapped : FuncData
  F_swapped : Fun K "swapped" "swapped" s_swapped a_swapped d_swapped
  g_swapped : mg "swapped" = some (.ref a_swapped)
  a_law_box : Addr
  d_law_box : FuncData
  F_law_box : Fun K "_law_box" "_law_box" s_law_box a_law_box d_law_box
  g_law_box : mg "_law_box" = some (.ref a_law_box)
  a_law_take : Addr
  d_law_take : FuncData
  F_law_take : Fun K "_law_take" "_law_take" s_law_take a_law_take d_law_take
  g_law_take : mg "_law_take" = some (.ref a_law_take)
  a_law_cells : Addr
  d_law_cells : FuncData
  F_law_cells : Fun K "_law_cells" "_law_cells" s_law_cells a_law_cells d_law_cells
  g_law_cells : mg "_law_cells" = some (.ref a_law_cells)
  a_law_of : Addr
  d_law_of : FuncData
  F_law_of : Fun K "_law_of" "_law_of" s_law_of a_law_of d_law_of
  g_law_of : mg "_law_of" = some (.ref a_law_of)
  a_law_same : Addr
  d_law_same : FuncData
  F_law_same : Fun K "_law_same" "_law_same" s_law_same a_law_same d_law_same
  g_law_same : mg "_law_same" = some (.ref a_law_same)
  a_law_lists : Addr
  d_law_lists : FuncData
  F_law_lists : Fun K "_law_lists" "_law_lists" s_law_lists a_law_lists d_law_lists
  g_law_lists : mg "_law_lists" = some (.ref a_law_lists)
  a_law_much : Addr
  d_law_much : FuncData
  F_law_much : Fun K "_law_much" "_law_much" s_law_much a_law_much d_law_much
  g_law_much : mg "_law_much" = some (.ref a_law_much)
  a_law_bits : Addr
  d_law_bits : FuncData
  F_law_bits : Fun K "_law_bits" "_law_bits" s_law_bits a_law_bits d_law_bits
  g_law_bits : mg "_law_bits" = some (.ref a_law_bits)
  a_law_joined : Addr
  d_law_joined : FuncData
  F_law_joined : Fun K "_law_joined" "_law_joined" s_law_joined a_law_joined d_law_joined
  g_law_joined : mg "_law_joined" = some (.ref a_law_joined)
  a_T_size : Addr
  d_T_size : FuncData
  F_T_size : Fun K "size" "Turns.size" s_T_size a_T_size d_T_size
  p_T_size : Addr
  pf_T_size : PropF K (T 20) "size" p_T_size a_T_size
  a_T_hers : Addr
  d_T_hers : FuncData
  F_T_hers : Fun K "hers" "Turns.hers" s_T_hers a_T_hers d_T_hers
  p_T_hers : Addr
  pf_T_hers : PropF K (T 20) "hers" p_T_hers a_T_hers
  a_T_his : Addr
  d_T_his : FuncData
  F_T_his : Fun K "his" "Turns.his" s_T_his a_T_his d_T_his
  p_T_his : Addr
  pf_T_his : PropF K (T 20) "his" p_T_his a_T_his
  a_T_ends : Addr
  d_T_ends : FuncData
  F_T_ends : Fun K "ends" "Turns.ends" s_T_ends a_T_ends d_T_ends
  p_T_ends : Addr
  pf_T_ends : PropF K (T 20) "ends" p_T_ends a_T_ends
  a_T_len : Addr
  d_T_len : FuncData
  F_T_len : Fun K "__len__" "Turns.__len__" s_T_len a_T_len d_T_len
  mf_T_len : MethF K (T 20) "__len__" a_T_len
  a_law_shown : Addr
  d_law_shown : FuncData
  F_law_shown : Fun K "_law_shown" "_law_shown" s_law_shown a_law_shown d_law_shown
  g_law_shown : mg "_law_shown" = some (.ref a_law_shown)
  a_law_kept : Addr
  d_law_kept : FuncData
  F_law_kept : Fun K "_law_kept" "_law_kept" s_law_kept a_law_kept d_law_kept
  g_law_kept : mg "_law_kept" = some (.ref a_law_kept)
  a_law_due : Addr
  d_law_due : FuncData
  F_law_due : Fun K "_law_due" "_law_due" s_law_due a_law_due d_law_due
  g_law_due : mg "_law_due" = some (.ref a_law_due)
  a_law_kinds_right : Addr
  d_law_kinds_right : FuncData
  F_law_kinds_right : Fun K "_law_kinds_right" "_law_kinds_right" s_law_kinds_right a_law_kinds_right d_law_kinds_right
  g_law_kinds_right : mg "_law_kinds_right" = some (.ref a_law_kinds_right)
  a_T_eq : Addr
  d_T_eq : FuncData
  F_T_eq : Fun K "__eq__" "Turns.__eq__" s_T_eq a_T_eq d_T_eq
  mf_T_eq : MethF K (T 20) "__eq__" a_T_eq
  a_T_add : Addr
  d_T_add : FuncData
  F_T_add : Fun K "__add__" "Turns.__add__" s_T_add a_T_add d_T_add
  mf_T_add : MethF K (T 20) "__add__" a_T_add
  a_law_by_hand_right : Addr
  d_law_by_hand_right : FuncData
  F_law_by_hand_right : Fun K "_law_by_hand_right" "_law_by_hand_right" s_law_by_hand_right a_law_by_hand_right d_law_by_hand_right
  g_law_by_hand_right : mg "_law_by_hand_right" = some (.ref a_law_by_hand_right)
  a_law_case_right : Addr
  d_law_case_right : FuncData
  F_law_case_right : Fun K "_law_case_right" "_law_case_right" s_law_case_right a_law_case_right d_law_case_right
  g_law_case_right : mg "_law_case_right" = some (.ref a_law_case_right)
  a_law_right : Addr
  d_law_right : FuncData
  F_law_right : Fun K "_law_right" "_law_right" s_law_right a_law_right d_law_right
  g_law_right : mg "_law_right" = some (.ref a_law_right)
  a_law : Addr
  d_law : FuncData
  F_law : Fun K "law" "law" s_law a_law d_law
  g_law : mg "law" = some (.ref a_law)
  fI_BadRun : Addr
  fd_BadRun : FuncData
  E_BadRun : EC K mg "BadRun" "place" (T 0) fI_BadRun
  FI_BadRun : Fun K "__init__" "BadRun.__init__" si_BadRun fI_BadRun fd_BadRun
  fI_BadText : Addr
  fd_BadText : FuncData
  E_BadText : EC K mg "BadText" "piece" (T 1) fI_BadText
  FI_BadText : Fun K "__init__" "BadText.__init__" si_BadText fI_BadText fd_BadText
  fI_NoPlace : Addr
  fd_NoPlace : FuncData
  E_NoPlace : EC K mg "NoPlace" "number" (T 4) fI_NoPlace
  FI_NoPlace : Fun K "__init__" "NoPlace.__init__" si_NoPlace fI_NoPlace fd_NoPlace
  ec_BadRun : ExcC K (T 0)
  ec_BadText : ExcC K (T 1)
  ec_NoPlace : ExcC K (T 4)
  C_H : Addr
  gH : mg "HeirError" = some (.ref C_H)
  ex_BadRun_BadRun : PySem.W.exmOne K (.ref (T 0)) (.ref (T 0)) = some true
  ex_BadText_BadRun : PySem.W.exmOne K (.ref (T 1)) (.ref (T 0)) = some false
  ex_NoPlace_BadRun : PySem.W.exmOne K (.ref (T 4)) (.ref (T 0)) = some false
  ki_BadRun_ValueError : PySem.W.kitOne K (.ref (T 0)) (.type "ValueError") = some true
  ki_BadText_ValueError : PySem.W.kitOne K (.ref (T 1)) (.type "ValueError") = some true
  ki_NoPlace_ValueError : PySem.W.kitOne K (.ref (T 4)) (.type "ValueError") = some true
  ki_BadRun_HeirError : PySem.W.kitOne K (.ref (T 0)) (.ref C_H) = some true
  ki_BadText_HeirError : PySem.W.kitOne K (.ref (T 1)) (.ref C_H) = some true
  ki_NoPlace_HeirError : PySem.W.kitOne K (.ref (T 4)) (.ref C_H) = some true
  z_ValueError : mg "ValueError" = none
  z_abs : mg "abs" = none
  z_all : mg "all" = none
  z_bool : mg "bool" = none
  z_enumerate : mg "enumerate" = none
  z_int : mg "int" = none
  z_isinstance : mg "isinstance" = none
  z_len : mg "len" = none
  z_list : mg "list" = none
  z_range : mg "range" = none
  z_str : mg "str" = none
  z_sum : mg "sum" = none
  z_tuple : mg "tuple" = none
  z_zip : mg "zip" = none
  c_DIGITS : ∃ t, mg "DIGITS" = some (.str "0123456789" t)
  c_BLANK : ∃ t, mg "BLANK" = some (.str " " t)
  c_BETWEEN : ∃ t, mg "BETWEEN" = some (.str "; " t)
  c_NOTHING : ∃ t, mg "NOTHING" = some (.str "-" t)
  c_PAIR_texts : ∃ t, mg "PAIR_texts" = some (.int 2 t)
  c_HEIRS_texts : ∃ (a : Addr) (o : Obj) (its : Array Value) (n : Nat), mg "HEIRS_texts" = some (.ref a) ∧ K.lookup a = some o ∧ o.cls = .type "tuple" ∧ o.data = .seq its n ∧ its.size ≤ sizeLine ∧ Vals [V.str "a", V.str "b"] its.toList
  c_PAIR_turns : ∃ t, mg "PAIR_turns" = some (.int 2 t)
  c_HEIRS_turns : ∃ (a : Addr) (o : Obj) (its : Array Value) (n : Nat), mg "HEIRS_turns" = some (.ref a) ∧ K.lookup a = some o ∧ o.cls = .type "tuple" ∧ o.data = .seq its n ∧ its.size ≤ sizeLine ∧ Vals [V.str "a", V.str "b"] its.toList
section
variable {P : Program} {w : World} {K : PySem.W.Frag} {mg : Str → Option Value} {base : Heap} {T : Tb}
theorem sci_BadRun : FnScope ["self", "place"] ["self", "place"] (defScope si_BadRun) := ⟨rfl, rfl, rfl, by decide +kernel, rfl, by decide +kernel, by decide +kernel⟩
theorem bI_BadRun (tx : Tx K mg T) : Binds K tx.fd_BadRun ["self", "place"] [] := tx.FI_BadRun.binds fun _ _ _ _ _ _ us hl => match us, hl with | [_, _], _ => rfl
theorem in_BadRun (tx : Tx K mg T) : FnOk P w K mg base (L2.CX P w) 1 tx.fI_BadRun tx.fd_BadRun ["self", "place"] (spIn K (T 0) "place") := fn_in1 tx.FI_BadRun sci_BadRun rfl tx.E_BadRun.ox tx.E_BadRun.noF (fun _ _ _ _ _ _ => pss_one (ps_ost (pv 0) (pv 1)))
theorem hx_BadRun (tx : Tx K mg T) : ∀ t b, List.lookup t ([(0, true), (1, false), (4, false)] : List (Nat × Bool)) = some b → PySem.W.exmOne K (.ref (T t)) (.ref (T 0)) = some b := (exs_cons tx.ex_BadRun_BadRun (exs_cons tx.ex_BadText_BadRun (exs_cons tx.ex_NoPlace_BadRun exs_nil)))
theorem hi_ValueError (tx : Tx K mg T) : ∀ t b, List.lookup t ([(0, true), (1, true), (4, true)] : List (Nat × Bool)) = some b → ExcC K (T t) ∧ PySem.W.kitOne K (.ref (T t)) (.type "ValueError") = some b := (exi_cons tx.ec_BadRun tx.ki_BadRun_ValueError (exi_cons tx.ec_BadText tx.ki_BadText_ValueError (exi_cons tx.ec_NoPlace tx.ki_NoPlace_ValueError exi_nil)))
theorem hi_HeirError (tx : Tx K mg T) : ∀ t b, List.lookup t ([(0, true), (1, true), (4, true)] : List (Nat × Bool)) = some b → ExcC K (T t) ∧ PySem.W.kitOne K (.ref (T t)) (.ref tx.C_H) = some b := (exi_cons tx.ec_BadRun tx.ki_BadRun_HeirError (exi_cons tx.ec_BadText tx.ki_BadText_HeirError (exi_cons tx.ec_NoPlace tx.ki_NoPlace_HeirError exi_nil)))
theorem xe_PAIR_turns {X : Cx} {W : WX} {pos : Pos} (tx : Tx X.K X.mg T) (hg : L2.Gl X "PAIR_turns" := by rfl) : XE X T W (.Name "PAIR_turns" pos) (constE (.int (2))) := by
  obtain ⟨t, e⟩ := tx.c_PAIR_turns
  exact xe_glob (v := (.int (2))) hg e ⟨t, rfl⟩ (fun _ => rfl)
theorem xe_HEIRS_turns {X : Cx} {W : WX} {pos : Pos} (tx : Tx X.K X.mg T) (hg : L2.Gl X "HEIRS_turns" := by rfl) : XE X T W (.Name "HEIRS_turns" pos) (constE (.tup [(.str "a"), (.str "b")])) := by
  obtain ⟨a, o, its, n, e, hk, hc, hd, hz, hv⟩ := tx.c_HEIRS_turns
  exact xe_glob (v := .ref a) hg e rfl (fun S => rp_kstrs (ss := ["a", "b"]) hk hc hd hz hv S)
/-! #### is_number -/
theorem sc_is_number : FnScope ["value"] ["value"] (defScope s_is_number) := ⟨rfl, rfl, rfl, by decide +kernel, rfl, by decide +kernel, by decide +kernel⟩
theorem b_is_number (tx : Tx K mg T) : Binds K tx.d_is_number ["value"] [] := tx.F_is_number.binds fun _ _ _ _ _ _ us hl => match us, hl with | [_], _ => rfl
def m_is_number : Rho → O := (retS (andE (isiE ["int"] (nameE 0)) (notE (isiE ["bool"] (nameE 0)))))
def f_is_number : List D → Res := runF 1 1 m_is_number
theorem ok_is_number (tx : Tx K mg T) : FnOk P w K mg base (L2.CX P w) 1 tx.a_is_number tx.d_is_number ["value"] (spP K T 1 f_is_number) :=
    fn_pure tx.F_is_number sc_is_number (by decide) fun cdv A outer s H E hr tk hp =>
      (xb_one (xs_ret (xe_and (xe_isi1 (t := "int") tx.z_isinstance (by decide +kernel) tx.z_int (by decide +kernel) (xe_name 0) (by decide)) (xe_one (xe_not (xe_isi1 (t := "bool") tx.z_isinstance (by decide +kernel) tx.z_bool (by decide +kernel) (xe_name 0) (by decide)))))))
/-! #### tupled -/
theorem sc_tupled : FnScope ["value", "part"] ["value"] (defScope s_tupled) := ⟨rfl, rfl, rfl, by decide +kernel, rfl, by decide +kernel, by decide +kernel⟩
theorem b_tupled (tx : Tx K mg T) : Binds K tx.d_tupled ["value"] [] := tx.F_tupled.binds fun _ _ _ _ _ _ us hl => match us, hl with | [_], _ => rfl
def m_tupled_e1 (self : List D → Res) : Rho → R VD := (callE self (consA (nameE 1) nilA))
def m_tupled_c1 (self : List D → Res) : Rho → R (List D) := (compF [1] (seqI (nameE 0)) (nameG 1) yesT (m_tupled_e1 self))
def m_tupled (self : List D → Res) : Rho → O := (retS (ifE (valT (isiE ["list", "tuple"] (nameE 0))) (opNE tupleTD (consA (frzE (m_tupled_c1 self)) nilA)) (nameE 0)))
def f_tupled : Nat → List D → Res
  | 0 => fun _ => .bad
  | n + 1 => runF 1 2 (m_tupled (f_tupled n))
theorem f_tupled_len : ∀ (n : Nat) (ds : List D), f_tupled n ds ≠ .bad → ds.length = 1
  | 0, _, h => (h rfl).elim
  | n + 1, ds, h => runF_len ds h
theorem ok_tupled (tx : Tx K mg T) : ∀ n : Nat, FnOk P w K mg base (L2.CX P w) (n + 1) tx.a_tupled tx.d_tupled ["value"] (spP K T 1 (f_tupled n))
  | 0 => fn_bad tx.F_tupled sc_tupled
  | n + 1 => have ih := ok_tupled tx n
    fn_pure (k := n + 1) tx.F_tupled sc_tupled (by decide) fun cdv A outer s H E hr tk hp =>
      (xb_one (xs_ret (xe_if (xt_val (xe_isi2 (t := "list") (t' := "tuple") tx.z_isinstance (by decide +kernel) tx.z_list (by decide +kernel) tx.z_tuple (by decide +kernel) (xe_name 0) (by decide) (by decide))) (xe_callTy (call_tupleA rfl) p_tupleT tx.z_tuple (by decide +kernel) (xa_cons (XF.xe (xf_lc rfl sc_tupled.nd (xi_seq (xe_name 0)) (blkOk_by (own := [("part", 1)]) (by kernel_rfl)) (fun _ _ _ _ _ => (xgo_name 1 sc_tupled.nd)) (fun _ _ _ _ _ => xts_nil) (fun _ _ _ _ _ => (xe_call ih (hr.mono (by omega)) tx.g_tupled tx.F_tupled.kp (b_tupled tx) takes0 (f_tupled_len n) (xa_cons (xe_name 1) xa_nil))))) xa_nil)) (xe_name 0))))
/-! #### number_in -/
def m_number_in_e1 : Rho → R VD := (op2E inD (nameE 1) (constE (.str "0123456789")))
def m_number_in_c1 : Rho → R (List D) := (compF [1] (seqI (nameE 0)) (nameG 1) yesT m_number_in_e1)
def m_number_in : Rho → O := (seqS (ifS (orT (valT (op2E eqD (nameE 0) (constE (.str "")))) (orT (notT (valT (opNE allD (consA (frzE m_number_in_c1) nilA)))) (andT (valT (op2E eqD (op2E atD (nameE 0) (constE (.int 0))) (constE (.str "0")))) (valT (op2E neD (nameE 0) (constE (.str "0"))))))) (retS (constE .non)) nextS)
  (retS (opNE intD (consA (nameE 0) nilA))))
def f_number_in : List D → Res := runF 1 2 m_number_in
/-! #### run_text -/
def m_run_text : Rho → O := (seqS (asgG (tupG 2 (consG (nameG 1) (consG (nameG 2) nilG))) (nameE 0))
  (retS (op2E addD (op2E addD (nameE 1) (constE (.str " "))) (opNE strD (consA (nameE 2) nilA)))))
def f_run_text : List D → Res := runF 1 3 m_run_text
/-! #### runs_text -/
def m_runs_text_e1 : Rho → R VD := (callE f_run_text (consA (nameE 1) nilA))
def m_runs_text_c1 : Rho → R (List D) := (compF [1] (seqI (nameE 0)) (nameG 1) yesT m_runs_text_e1)
def m_runs_text : Rho → O := (retS (ifE (valT (op2E gtD (opNE lenD (consA (nameE 0) nilA)) (constE (.int 0)))) (strM joinD (constE (.str "; ")) (consA (frzE m_runs_text_c1) nilA)) (constE (.str "-"))))
def f_runs_text : List D → Res := runF 1 2 m_runs_text
/-! #### run_in -/
def m_run_in : Rho → O := (seqS (asgS 1 (strM splitD (nameE 0) (consA (constE (.str " ")) nilA)))
  (seqS (ifS (orT (valT (op2E neD (opNE lenD (consA (nameE 1) nilA)) (constE (.int (2))))) (orT (valT (op2E ninD (op2E atD (nameE 1) (constE (.int 0))) (constE (.tup [(.str "a"), (.str "b")])))) (valT (op2E inD (callE f_number_in (consA (op2E atD (nameE 1) (constE (.int 1))) nilA)) (tupE (consA (constE .non) (consA (constE (.int 0)) nilA))))))) (retS (constE .non)) nextS)
  (retS (tupE (consA (op2E atD (nameE 1) (constE (.int 0))) (consA (callE f_number_in (consA (op2E atD (nameE 1) (constE (.int 1))) nilA)) nilA))))))
def f_run_in : List D → Res := runF 1 2 m_run_in
/-! #### runs_from -/
def m_runs_from_g1 : D → Rho → Option Rho := (tupG 2 (consG (nameG 2) (consG (nameG 3) nilG)))
def m_runs_from_b1 : Rho → O := (seqS (asgS 4 (callE f_run_in (consA (nameE 3) nilA)))
  (seqS (ifS (orT (valT (op2E isD (nameE 4) (constE .non))) (andT (valT (op2E gtD (opNE lenD (consA (nameE 1) nilA)) (constE (.int 0)))) (valT (op2E eqD (op2E atD (nameE 4) (constE (.int 0))) (op2E atD (op2E atD (nameE 1) (op1E negD (constE (.int 1)))) (constE (.int 0))))))) (raiseS 1 (consA (nameE 2) nilA)) nextS)
  (dropS (appE 1 (consA (nameE 4) nilA)))))
def m_runs_from_l1 : Rho → O := (forS (enumA (consA (ifE (valT (op2E neD (nameE 0) (constE (.str "-")))) (strM splitD (nameE 0) (consA (constE (.str "; ")) nilA)) (frzE (lstF nilA))) nilA)) m_runs_from_g1 m_runs_from_b1)
def m_runs_from : Rho → O := (seqS (asgM 1 (lstF nilA))
  (seqS m_runs_from_l1
  (retS (opNE tupleTD (consA (nameE 1) nilA)))))
def f_runs_from : List D → Res := runF 1 5 m_runs_from
/-! #### joined_runs -/
theorem sc_joined_runs : FnScope ["runs", "found", "heir", "number"] ["runs"] (defScope s_joined_runs) := ⟨rfl, rfl, rfl, by decide +kernel, rfl, by decide +kernel, by decide +kernel⟩
theorem b_joined_runs (tx : Tx K mg T) : Binds K tx.d_joined_runs ["runs"] [] := tx.F_joined_runs.binds fun _ _ _ _ _ _ us hl => match us, hl with | [_], _ => rfl
def m_joined_runs_g1 : D → Rho → Option Rho := (tupG 2 (consG (nameG 2) (consG (nameG 3) nilG)))
def m_joined_runs_b1 : Rho → O := (ifS (andT (valT (op2E gtD (opNE lenD (consA (nameE 1) nilA)) (constE (.int 0)))) (valT (op2E eqD (op2E atD (op2E atD (nameE 1) (op1E negD (constE (.int 1)))) (constE (.int 0))) (nameE 2)))) (asgS 1 (tupE (starA (slE (nameE 1) noPart (aPart (op1E negD (constE (.int 1))))) (consA (tupE (consA (nameE 2) (consA (op2E addD (op2E atD (op2E atD (nameE 1) (op1E negD (constE (.int 1)))) (constE (.int 1))) (nameE 3)) nilA))) nilA)))) (asgS 1 (tupE (starA (nameE 1) (consA (tupE (consA (nameE 2) (consA (nameE 3) nilA))) nilA)))))
def m_joined_runs_l1 : Rho → O := (forS (seqI (nameE 0)) m_joined_runs_g1 m_joined_runs_b1)
def m_joined_runs : Rho → O := (seqS (asgS 1 (tupE nilA))
  (seqS m_joined_runs_l1
  (retS (nameE 1))))
def f_joined_runs : List D → Res := runF 1 4 m_joined_runs
theorem ok_joined_runs (tx : Tx K mg T) : FnOk P w K mg base (L2.CX P w) 1 tx.a_joined_runs tx.d_joined_runs ["runs"] (spP K T 1 f_joined_runs) :=
    fn_pure tx.F_joined_runs sc_joined_runs (by decide) fun cdv A outer s H E hr tk hp =>
      (xb_cons (xs_set 1 sc_joined_runs.nd (xe_tup xa_nil))
      (xb_cons (xs_for hp rfl (xi_seq (xe_name 0)) (xg_tup rfl (xgs_cons (xg_name 2 sc_joined_runs.nd) (xgs_cons (xg_name 3 sc_joined_runs.nd) xgs_nil))) (xb_one (xs_if (XW.xt (xw_and (xt_cmp op_gt p_gt (xe_callB call_len p_len tx.z_len (by decide +kernel) (xa_cons (xe_name 1) xa_nil)) xe_int) (xw_and1 (xt_cmp (op_eqA hr.units) p_eq (xe_ix ix_seq p_ix (xe_ix ix_seq p_ix (xe_name 1) (xe_un un_neg p_neg xe_int)) xe_int) (xe_name 2))))) (xb_one (xs_set 1 sc_joined_runs.nd (xe_tup (xa_star (xe_sl (xe_name 1) xo_none (xo_some (xe_un un_neg p_neg xe_int))) (xa_cons (xe_tup (xa_cons (xe_name 2) (xa_cons (xe_op op_addA p_add (xe_ix ix_seq p_ix (xe_ix ix_seq p_ix (xe_name 1) (xe_un un_neg p_neg xe_int)) xe_int) (xe_name 3)) xa_nil))) xa_nil))))) (xb_one (xs_set 1 sc_joined_runs.nd (xe_tup (xa_star (xe_name 1) (xa_cons (xe_tup (xa_cons (xe_name 2) (xa_cons (xe_name 3) xa_nil))) xa_nil))))))))
      (xb_one (xs_ret (xe_name 1)))))
/-! #### ends_of -/
theorem sc_ends_of : FnScope ["runs", "place", "heir", "number"] ["runs"] (defScope s_ends_of) := ⟨rfl, rfl, rfl, by decide +kernel, rfl, by decide +kernel, by decide +kernel⟩
theorem b_ends_of (tx : Tx K mg T) : Binds K tx.d_ends_of ["runs"] [] := tx.F_ends_of.binds fun _ _ _ _ _ _ us hl => match us, hl with | [_], _ => rfl
def m_ends_of_e1 : Rho → R VD := (nameE 3)
def m_ends_of_c1 : Rho → R (List D) := (compF [2, 3] (seqI (slE (nameE 0) noPart (aPart (op2E addD (nameE 1) (constE (.int 1)))))) (tupG 2 (consG (nameG 2) (consG (nameG 3) nilG))) yesT m_ends_of_e1)
def m_ends_of_e2 : Rho → R VD := (opNE sumD (consA (frzE m_ends_of_c1) nilA))
def m_ends_of_c2 : Rho → R (List D) := (compF [1] (rngI1 (consA (opNE lenD (consA (nameE 0) nilA)) nilA)) (nameG 1) yesT m_ends_of_e2)
def m_ends_of : Rho → O := (retS (opNE tupleTD (consA (frzE m_ends_of_c2) nilA)))
def f_ends_of : List D → Res := runF 1 4 m_ends_of
theorem ok_ends_of (tx : Tx K mg T) : FnOk P w K mg base (L2.CX P w) 1 tx.a_ends_of tx.d_ends_of ["runs"] (spP K T 1 f_ends_of) :=
    fn_pure tx.F_ends_of sc_ends_of (by decide) fun cdv A outer s H E hr tk hp =>
      (xb_one (xs_ret (xe_callTy (call_tupleA rfl) p_tupleT tx.z_tuple (by decide +kernel) (xa_cons (XF.xe (xf_lc rfl sc_ends_of.nd (xi_range1 tx.z_range (xa_cons (xe_callB call_len p_len tx.z_len (by decide +kernel) (xa_cons (xe_name 0) xa_nil)) xa_nil)) (blkOk_by (own := [("place", 1)]) (by kernel_rfl)) (fun _ _ _ _ _ => (xgo_name 1 sc_ends_of.nd)) (fun _ _ _ _ _ => xts_nil) (fun _ _ _ _ _ => (xe_callB (cr_sum rfl) p_sum tx.z_sum (by decide +kernel) (xa_cons (XF.xe (xf_lc rfl sc_ends_of.nd (xi_seq (xe_sl (xe_name 0) xo_none (xo_some (xe_op op_addA p_add (xe_name 1) xe_int)))) (blkOk_by (own := [("heir", 2), ("number", 3)]) (by kernel_rfl)) (fun _ _ _ _ _ => (xgo_tup rfl (xgos_cons (xgo_name 2 sc_ends_of.nd) (xgos_cons (xgo_name 3 sc_ends_of.nd) xgos_nil)))) (fun _ _ _ _ _ => xts_nil) (fun _ _ _ _ _ => (xe_name 3)))) xa_nil))))) xa_nil))))
/-! #### is_run -/
theorem sc_is_run : FnScope ["thing"] ["thing"] (defScope s_is_run) := ⟨rfl, rfl, rfl, by decide +kernel, rfl, by decide +kernel, by decide +kernel⟩
theorem b_is_run (tx : Tx K mg T) : Binds K tx.d_is_run ["thing"] [] := tx.F_is_run.binds fun _ _ _ _ _ _ us hl => match us, hl with | [_], _ => rfl
def m_is_run : Rho → O := (seqS (ifS (orT (notT (valT (isiE ["tuple"] (nameE 0)))) (valT (op2E neD (opNE lenD (consA (nameE 0) nilA)) (constE (.int (2)))))) (retS (constE (.bl false))) nextS)
  (retS (andE (isiE ["str"] (op2E atD (nameE 0) (constE (.int 0)))) (andE (op2E inD (op2E atD (nameE 0) (constE (.int 0))) (constE (.tup [(.str "a"), (.str "b")]))) (andE (callE f_is_number (consA (op2E atD (nameE 0) (constE (.int 1))) nilA)) (op2E gtD (op2E atD (nameE 0) (constE (.int 1))) (constE (.int 0))))))))
def f_is_run : List D → Res := runF 1 1 m_is_run
theorem ok_is_run (tx : Tx K mg T) : FnOk P w K mg base (L2.CX P w) 2 tx.a_is_run tx.d_is_run ["thing"] (spP K T 1 f_is_run) :=
    fn_pure tx.F_is_run sc_is_run (by decide) fun cdv A outer s H E hr tk hp =>
      (xb_cons (xs_if (XW.xt (xw_or (xt_not (xt_val (xe_isi1 (t := "tuple") tx.z_isinstance (by decide +kernel) tx.z_tuple (by decide +kernel) (xe_name 0) (by decide)))) (xw_or1 (xt_cmp (op_neA hr.units) p_ne (xe_callB call_len p_len tx.z_len (by decide +kernel) (xa_cons (xe_name 0) xa_nil)) (xe_PAIR_turns tx))))) (xb_one (xs_ret xe_bl)) xb_nil)
      (xb_one (xs_ret (xe_and (xe_isi1 (t := "str") tx.z_isinstance (by decide +kernel) tx.z_str (by decide +kernel) (xe_ix ix_seq p_ix (xe_name 0) xe_int) (by decide)) (xe_and (xe_cmp op_inA p_in (xe_ix ix_seq p_ix (xe_name 0) xe_int) (xe_HEIRS_turns tx)) (xe_and (xe_call (ok_is_number tx) (hr.mono (by decide)) tx.g_is_number tx.F_is_number.kp (b_is_number tx) tk runF_len (xa_cons (xe_ix ix_seq p_ix (xe_name 0) xe_int) xa_nil)) (xe_one (xe_cmp op_gt p_gt (xe_ix ix_seq p_ix (xe_name 0) xe_int) xe_int))))))))
/-! #### is_runs -/
theorem sc_is_runs : FnScope ["thing", "one", "other", "run"] ["thing"] (defScope s_is_runs) := ⟨rfl, rfl, rfl, by decide +kernel, rfl, by decide +kernel, by decide +kernel⟩
theorem b_is_runs (tx : Tx K mg T) : Binds K tx.d_is_runs ["thing"] [] := tx.F_is_runs.binds fun _ _ _ _ _ _ us hl => match us, hl with | [_], _ => rfl
theorem kw_is_runs (tx : Tx K mg T) : KwB K tx.d_is_runs ["thing"] := kwB_of tx.F_is_runs fun _ _ _ _ _ _ us hl => match us, hl with | [_], _ => rfl
def m_is_runs_e1 : Rho → R VD := (callE f_is_run (consA (nameE 3) nilA))
def m_is_runs_c1 : Rho → R (List D) := (compF [3] (seqI (nameE 0)) (nameG 3) yesT m_is_runs_e1)
def m_is_runs_e2 : Rho → R VD := (op2E neD (op2E atD (nameE 1) (constE (.int 0))) (op2E atD (nameE 2) (constE (.int 0))))
def m_is_runs_c2 : Rho → R (List D) := (compF [1, 2] (zipI (consA (nameE 0) (consA (slE (nameE 0) (aPart (constE (.int 1))) noPart) nilA))) (tupG 2 (consG (nameG 1) (consG (nameG 2) nilG))) yesT m_is_runs_e2)
def m_is_runs : Rho → O := (seqS (ifS (orT (notT (valT (isiE ["tuple"] (nameE 0)))) (notT (valT (opNE allD (consA (frzE m_is_runs_c1) nilA))))) (retS (constE (.bl false))) nextS)
  (retS (opNE allD (consA (frzE m_is_runs_c2) nilA))))
def f_is_runs : List D → Res := runF 1 4 m_is_runs
theorem ok_is_runs (tx : Tx K mg T) : FnOk P w K mg base (L2.CX P w) 3 tx.a_is_runs tx.d_is_runs ["thing"] (spP K T 1 f_is_runs) :=
    fn_pure tx.F_is_runs sc_is_runs (by decide) fun cdv A outer s H E hr tk hp =>
      (xb_cons (xs_if (XW.xt (xw_or (xt_not (xt_val (xe_isi1 (t := "tuple") tx.z_isinstance (by decide +kernel) tx.z_tuple (by decide +kernel) (xe_name 0) (by decide)))) (xw_or1 (xt_not (xt_val (xe_callB (cr_all rfl) p_all tx.z_all (by decide +kernel) (xa_cons (XF.xe (xf_lc rfl sc_is_runs.nd (xi_seq (xe_name 0)) (blkOk_by (own := [("run", 3)]) (by kernel_rfl)) (fun _ _ _ _ _ => (xgo_name 3 sc_is_runs.nd)) (fun _ _ _ _ _ => xts_nil) (fun _ _ _ _ _ => (xe_call (ok_is_run tx) (hr.mono (by decide)) tx.g_is_run tx.F_is_run.kp (b_is_run tx) takes0 runF_len (xa_cons (xe_name 3) xa_nil))))) xa_nil))))))) (xb_one (xs_ret xe_bl)) xb_nil)
      (xb_one (xs_ret (xe_callB (cr_all rfl) p_all tx.z_all (by decide +kernel) (xa_cons (XF.xe (xf_lc rfl sc_is_runs.nd (xi_zip tx.z_zip (xa_cons (xe_name 0) (xa_cons (xe_sl (xe_name 0) (xo_some xe_int) xo_none) xa_nil))) (blkOk_by (own := [("one", 1), ("other", 2)]) (by kernel_rfl)) (fun _ _ _ _ _ => (xgo_tup rfl (xgos_cons (xgo_name 1 sc_is_runs.nd) (xgos_cons (xgo_name 2 sc_is_runs.nd) xgos_nil)))) (fun _ _ _ _ _ => xts_nil) (fun _ _ _ _ _ => (xe_cmp (op_neA hr.units) p_ne (xe_ix ix_seq p_ix (xe_name 1) xe_int) (xe_ix ix_seq p_ix (xe_name 2) xe_int))))) xa_nil)))))
/-! #### Turns.__init__ -/
theorem sc_T_init : FnScope ["self", "runs", "rows", "place", "heir", "number"] ["self", "runs"] (defScope s_T_init) := ⟨rfl, rfl, rfl, by decide +kernel, rfl, by decide +kernel, by decide +kernel⟩
theorem bT0 (tx : Tx K mg T) : Binds K tx.fd_T ["self", "runs"] [.ref tx.d0_T] := by
  obtain ⟨oc, od, dV, kV, doc, pm, an, cdv, ct, osl, e, lk, hcd, hD, hK⟩ := tx.FT.fn.ex
  obtain ⟨ds, hv, hb⟩ := tx.FT.fn.binds1 (ps := ["self", "runs"]) 1 0 (by simp) rfl (fun _ _ _ _ _ _ _ us its hl h1 => match us, hl, its, h1 with | [_], _, [_], _ => ⟨_, rfl, rfl⟩)
  cases hv with | cons r t => cases t; cases r; exact hb
theorem bT1 (tx : Tx K mg T) : Binds K tx.fd_T ["self", "runs"] [] := by
  obtain ⟨oc, od, dV, kV, doc, pm, an, cdv, ct, osl, e, lk, hcd, hD, hK⟩ := tx.FT.fn.ex
  obtain ⟨ds, hv, hb⟩ := tx.FT.fn.binds1 (ps := ["self", "runs"]) 2 1 (by simp) rfl (fun _ _ _ _ _ _ _ us its hl h1 => match us, hl, its, h1 with | [_, _], _, [_], _ => ⟨_, rfl, rfl⟩)
  cases hv; exact hb
def m_T_init_g1 : D → Rho → Option Rho := (tupG 2 (consG (nameG 3) (consG (tupG 2 (consG (nameG 4) (consG (nameG 5) nilG))) nilG)))
def m_T_init_b1 : Rho → O := (ifS (orT (valT (op2E ninD (nameE 4) (constE (.tup [(.str "a"), (.str "b")])))) (valT (op2E ltD (nameE 5) (constE (.int 1))))) (raiseS 0 (consA (nameE 3) nilA)) nextS)
def m_T_init_l1 : Rho → O := (forS (enumA (consA (nameE 2) nilA)) m_T_init_g1 m_T_init_b1)
def m_T_init_s1 : Rho → O := (asgS 2 (callE (f_tupled 8) (consA (nameE 1) nilA)))
def m_T_init_s2 : Rho → O := m_T_init_l1
theorem kI_T (tx : Tx K mg T) : KwS K tx.fd_T "runs" := kwI_of tx.FT fun _ _ _ _ _ _ _ _ _ _ => ⟨_, rfl, rfl⟩
def f_T_init : List D → Res := initT 20 5 m_T_init_s1 m_T_init_s2 (callE f_joined_runs (consA (nameE 2) nilA)) f_ends_of
theorem ok_T_init (tx : Tx K mg T) : FnOk P w K mg base (L2.CX P w) 10 tx.fI_T tx.fd_T ["self", "runs"] (spI K T 20 1 f_T_init) :=
    fn_initT tx.FT.fn sc_T_init rfl rfl rfl tx.scT tx.sT0 tx.sT1 fun cdv A outer s H E hr tk hp =>
      (pss_cons (xs_set 2 sc_T_init.nd (xe_call (ok_tupled tx 8) (hr.mono (by decide)) tx.g_tupled tx.F_tupled.kp (b_tupled tx) tk (f_tupled_len 8) (xa_cons (xe_name 1) xa_nil))) (pss_cons (xs_for hp rfl (xi_enumA tx.z_enumerate (xa_cons (xe_name 2) xa_nil)) (xg_tup rfl (xgs_cons (xg_name 3 sc_T_init.nd) (xgs_cons (xg_tup rfl (xgs_cons (xg_name 4 sc_T_init.nd) (xgs_cons (xg_name 5 sc_T_init.nd) xgs_nil))) xgs_nil))) (xb_one (xs_if (XW.xt (xw_or (xt_cmp op_ninA p_nin (xe_name 4) (xe_HEIRS_turns tx)) (xw_or1 (xt_cmp op_ltA p_lt (xe_name 5) xe_int)))) (xb_one (xs_raise1 (t := 0) rfl tk tx.E_BadRun (in_BadRun tx) (hr.mono (by decide)) (bI_BadRun tx) rfl (xa_cons (xe_name 3) xa_nil))) xb_nil))) (pss_cons (SlX.ps_sl (pv 0) (xe_call (ok_joined_runs tx) (hr.mono (by decide)) tx.g_joined_runs tx.F_joined_runs.kp (b_joined_runs tx) tk runF_len (xa_cons (xe_name 2) xa_nil))) (pss_one (SlX.ps_sl (pv 0) (pe_callS (ok_ends_of tx) (hr.mono (by decide)) rfl tx.g_ends_of tx.F_ends_of.kp (b_ends_of tx) (fun σ => passAt tk σ) (pa_cons (SlX.pe_sl (pv 0)) pa_nil)))))))
/-! #### Turns.runs -/
theorem sc_T_runs : FnScope ["self"] ["self"] (defScope s_T_runs) := ⟨rfl, rfl, rfl, by decide +kernel, rfl, by decide +kernel, by decide +kernel⟩
theorem b_T_runs (tx : Tx K mg T) : Binds K tx.d_T_runs ["self"] [] := tx.F_T_runs.binds fun _ _ _ _ _ _ us hl => match us, hl with | [_], _ => rfl
def m_T_runs : Rho → O := (retS (op1E (slotD 20 1) (nameE 0)))
def f_T_runs : List D → Res := runF 1 1 m_T_runs
theorem ok_T_runs (tx : Tx K mg T) : FnOk P w K mg base (L2.CX P w) 1 tx.a_T_runs tx.d_T_runs ["self"] (spP K T 1 f_T_runs) :=
    fn_pure tx.F_T_runs sc_T_runs (by decide) fun cdv A outer s H E hr tk hp =>
      (xb_one (xs_ret (xe_slot (t := 20) rfl tx.scT tx.sT1 (xe_name 0))))
/-! #### backwards -/
theorem sc_backwards : FnScope ["turns"] ["turns"] (defScope s_backwards) := ⟨rfl, rfl, rfl, by decide +kernel, rfl, by decide +kernel, by decide +kernel⟩
theorem b_backwards (tx : Tx K mg T) : Binds K tx.d_backwards ["turns"] [] := tx.F_backwards.binds fun _ _ _ _ _ _ us hl => match us, hl with | [_], _ => rfl
theorem kw_backwards (tx : Tx K mg T) : KwB K tx.d_backwards ["turns"] := kwB_of tx.F_backwards fun _ _ _ _ _ _ us hl => match us, hl with | [_], _ => rfl
def m_backwards : Rho → O := (retS (callE f_T_init (consA (op1E revD (op1E (propD 20 f_T_runs) (nameE 0))) nilA)))
def f_backwards : List D → Res := runF 1 1 m_backwards
theorem ok_backwards (tx : Tx K mg T) : FnOk P w K mg base (L2.CX P w) 12 tx.a_backwards tx.d_backwards ["turns"] (spP K T 1 f_backwards) :=
    fn_pure tx.F_backwards sc_backwards (by decide) fun cdv A outer s H E hr tk hp =>
      (xb_one (xs_ret (xe_make (t := 20) tx.mT (ok_T_init tx) (hr.mono (by decide)) tx.gT (bT1 tx) tk initT_len initT_obj (xa_cons (xe_back (xe_prop (t := 20) rfl tx.scT tx.pf_T_runs.at_ tx.pf_T_runs.get tx.pf_T_runs.tk tx.pf_T_runs.rc (ok_T_runs tx) (b_T_runs tx) (hr.mono (by decide)) (xe_name 0))) xa_nil))))
/-! #### swapped -/
theorem sc_swapped : FnScope ["turns", "heir", "number"] ["turns"] (defScope s_swapped) := ⟨rfl, rfl, rfl, by decide +kernel, rfl, by decide +kernel, by decide +kernel⟩
theorem b_swapped (tx : Tx K mg T) : Binds K tx.d_swapped ["turns"] [] := tx.F_swapped.binds fun _ _ _ _ _ _ us hl => match us, hl with | [_], _ => rfl
theorem kw_swapped (tx : Tx K mg T) : KwB K tx.d_swapped ["turns"] := kwB_of tx.F_swapped fun _ _ _ _ _ _ us hl => match us, hl with | [_], _ => rfl
def m_swapped_e1 : Rho → R VD := (tupE (consA (ifE (valT (op2E eqD (nameE 1) (constE (.str "a")))) (constE (.str "b")) (constE (.str "a"))) (consA (nameE 2) nilA)))
def m_swapped_c1 : Rho → R (List D) := (compF [1, 2] (seqI (op1E (propD 20 f_T_runs) (nameE 0))) (tupG 2 (consG (nameG 1) (consG (nameG 2) nilG))) yesT m_swapped_e1)
def m_swapped : Rho → O := (retS (callE f_T_init (consA (frzE m_swapped_c1) nilA)))
def f_swapped : List D → Res := runF 1 3 m_swapped
theorem ok_swapped (tx : Tx K mg T) : FnOk P w K mg base (L2.CX P w) 12 tx.a_swapped tx.d_swapped ["turns"] (spP K T 1 f_swapped) :=
    fn_pure tx.F_swapped sc_swapped (by decide) fun cdv A outer s H E hr tk hp =>
      (xb_one (xs_ret (xe_make (t := 20) tx.mT (ok_T_init tx) (hr.mono (by decide)) tx.gT (bT1 tx) tk initT_len initT_obj (xa_cons (XF.xe (xf_lc rfl sc_swapped.nd (xi_seq (xe_prop (t := 20) rfl tx.scT tx.pf_T_runs.at_ tx.pf_T_runs.get tx.pf_T_runs.tk tx.pf_T_runs.rc (ok_T_runs tx) (b_T_runs tx) (hr.mono (by decide)) (xe_name 0))) (blkOk_by (own := [("heir", 1), ("number", 2)]) (by kernel_rfl)) (fun _ _ _ _ _ => (xgo_tup rfl (xgos_cons (xgo_name 1 sc_swapped.nd) (xgos_cons (xgo_name 2 sc_swapped.nd) xgos_nil)))) (fun _ _ _ _ _ => xts_nil) (fun _ _ _ _ _ => (xe_tup (xa_cons (xe_if (xt_cmp (op_eqA hr.units) p_eq (xe_name 1) xe_str) xe_str xe_str) (xa_cons (xe_name 2) xa_nil)))))) xa_nil))))
/-! #### _law_box -/
theorem sc_law_box : FnScope ["_law_script", "_law_k", "_law_cell"] ["_law_script", "_law_k"] (defScope s_law_box) := ⟨rfl, rfl, rfl, by decide +kernel, rfl, by decide +kernel, by decide +kernel⟩
theorem b_law_box (tx : Tx K mg T) : Binds K tx.d_law_box ["_law_script", "_law_k"] [] := tx.F_law_box.binds fun _ _ _ _ _ _ us hl => match us, hl with | [_, _], _ => rfl
def m_law_box : Rho → O := (seqS (asgS 2 (ifE (valT (op2E ltD (nameE 1) (opNE lenD (consA (nameE 0) nilA)))) (op2E atD (nameE 0) (nameE 1)) (constE (.int 0))))
  (retF (lstF (consA (op2E mulD (opNE absD (consA (nameE 2) nilA)) (opNE intD (consA (op2E geD (opNE absD (consA (nameE 2) nilA)) (op2E powD (constE (.int 10)) (constE (.int 18)))) nilA))) (consA (op2E addD (op2E addD (op2E modD (opNE intD (consA (nameE 2) nilA)) (constE (.int 2305843009213693951))) (op2E mulD (constE (.int 39373)) (nameE 1))) (constE (.int 83007))) (consA (constE (.int 0)) nilA))))))
def f_law_box : List D → Option (List D) := runL 2 3 m_law_box
theorem ok_law_box (tx : Tx K mg T) : FnOk P w K mg base (L2.CX P w) 1 tx.a_law_box tx.d_law_box ["_law_script", "_law_k"] (spL K T 2 f_law_box) :=
    fn_new tx.F_law_box sc_law_box fun cdv A outer s H E hr hp =>
      (xb_cons (xs_set 2 sc_law_box.nd (xe_if (xt_cmp op_ltA p_lt (xe_name 1) (xe_callB call_len p_len tx.z_len (by decide +kernel) (xa_cons (xe_name 0) xa_nil))) (xe_ix ix_seq p_ix (xe_name 0) (xe_name 1)) xe_int))
      (xb_one (xs_retF (xf_lst (xa_cons (xe_op op_mulA p_mul (xe_callB call_abs p_abs tx.z_abs (by decide +kernel) (xa_cons (xe_name 2) xa_nil)) (xe_callTy call_intA p_int tx.z_int (by decide +kernel) (xa_cons (xe_cmp op_ge p_ge (xe_callB call_abs p_abs tx.z_abs (by decide +kernel) (xa_cons (xe_name 2) xa_nil)) (xe_op op_pow p_pow xe_int xe_int)) xa_nil))) (xa_cons (xe_op op_addA p_add (xe_op op_addA p_add (xe_op op_mod p_mod (xe_callTy call_intA p_int tx.z_int (by decide +kernel) (xa_cons (xe_name 2) xa_nil)) xe_int) (xe_op op_mulA p_mul xe_int (xe_name 1))) xe_int) (xa_cons xe_int xa_nil)))))))
/-! #### _law_take -/
theorem sc_law_take : FnScope ["_law_box_here", "_law_size_so", "_law_drawn_so", "_law_once", "_law_far", "_law_again"] ["_law_box_here", "_law_size_so"] (defScope s_law_take) := ⟨rfl, rfl, rfl, by decide +kernel, rfl, by decide +kernel, by decide +kernel⟩
theorem b_law_take (tx : Tx K mg T) : Binds K tx.d_law_take ["_law_box_here", "_law_size_so"] [] := tx.F_law_take.binds fun _ _ _ _ _ _ us hl => match us, hl with | [_, _], _ => rfl
def m_law_take : Rho → O := (seqS (ifS (valT (op2E gtD (op2E atD (nameE 0) (constE (.int 0))) (constE (.int 0)))) (seqS (asgS 2 (op2E modD (opNE intD (consA (op2E atD (nameE 0) (constE (.int 0))) nilA)) (nameE 1)))
  (seqS (putItem 0 (op2E fdivD (op2E atD (nameE 0) (constE (.int 0))) (nameE 1)) (constE (.int 0)))
  (retS (nameE 2)))) nextS)
  (seqS (putItem 0 (op2E addD (op2E atD (nameE 0) (constE (.int 2))) (constE (.int 1))) (constE (.int 2)))
  (seqS (asgS 3 (op2E modD (opNE intD (consA (op2E mulD (op2E addD (op2E atD (nameE 0) (constE (.int 1))) (op2E mulD (constE (.int 48271)) (op2E atD (nameE 0) (constE (.int 2))))) (op2E addD (constE (.int 39373)) (op2E atD (nameE 0) (constE (.int 2))))) nilA)) (constE (.int 2147483647))))
  (seqS (asgS 4 (op2E addD (op2E modD (opNE intD (consA (nameE 3) nilA)) (constE (.int 40009))) (constE (.int 7))))
  (seqS (asgS 5 (op2E modD (opNE intD (consA (op2E mulD (op2E addD (op2E addD (nameE 3) (op2E atD (nameE 0) (constE (.int 2)))) (op2E fdivD (op2E atD (nameE 0) (constE (.int 1))) (constE (.int 1000003)))) (nameE 4)) nilA)) (constE (.int 2147483629))))
  (retS (op2E modD (opNE intD (consA (op2E fdivD (op2E modD (opNE intD (consA (op2E addD (op2E mulD (nameE 5) (constE (.int 48271))) (nameE 3)) nilA)) (constE (.int 2147483587))) (constE (.int 64))) nilA)) (nameE 1))))))))
def f_law_take : List Int → List D → Option (D × List Int) := runB 1 5 m_law_take
theorem ok_law_take (tx : Tx K mg T) : FnOk P w K mg base (L2.CX P w) 1 tx.a_law_take tx.d_law_take ["_law_box_here", "_law_size_so"] (spB K T 1 f_law_take) :=
    fn_box tx.F_law_take sc_law_take (by decide) rfl rfl fun cdv A outer s H E hr hp =>
      (by refine (xb_cons ?_ (xb_cons ?_ (xb_cons ?_ (xb_cons ?_ (xb_cons ?_ (xb_one ?_)))))); exact (xs_if (xt_cmp op_gt p_gt (xe_ix ix_seq p_ix (xe_name 0) xe_int) xe_int) (xb_cons (xs_set 2 sc_law_take.nd (xe_op op_mod p_mod (xe_callTy call_intA p_int tx.z_int (by decide +kernel) (xa_cons (xe_ix ix_seq p_ix (xe_name 0) xe_int) xa_nil)) (xe_name 1)))       (xb_cons (xs_item 0 (xe_op op_fdiv p_fdiv (xe_ix ix_seq p_ix (xe_name 0) xe_int) (xe_name 1)) xe_int)       (xb_one (xs_ret (xe_name 2))))) xb_nil); exact (xs_item 0 (xe_op op_addA p_add (xe_ix ix_seq p_ix (xe_name 0) xe_int) xe_int) xe_int); exact (xs_set 3 sc_law_take.nd (xe_op op_mod p_mod (xe_callTy call_intA p_int tx.z_int (by decide +kernel) (xa_cons (xe_op op_mulA p_mul (xe_op op_addA p_add (xe_ix ix_seq p_ix (xe_name 0) xe_int) (xe_op op_mulA p_mul xe_int (xe_ix ix_seq p_ix (xe_name 0) xe_int))) (xe_op op_addA p_add xe_int (xe_ix ix_seq p_ix (xe_name 0) xe_int))) xa_nil)) xe_int)); exact (xs_set 4 sc_law_take.nd (xe_op op_addA p_add (xe_op op_mod p_mod (xe_callTy call_intA p_int tx.z_int (by decide +kernel) (xa_cons (xe_name 3) xa_nil)) xe_int) xe_int)); exact (xs_set 5 sc_law_take.nd (xe_op op_mod p_mod (xe_callTy call_intA p_int tx.z_int (by decide +kernel) (xa_cons (xe_op op_mulA p_mul (xe_op op_addA p_add (xe_op op_addA p_add (xe_name 3) (xe_ix ix_seq p_ix (xe_name 0) xe_int)) (xe_op op_fdiv p_fdiv (xe_ix ix_seq p_ix (xe_name 0) xe_int) xe_int)) (xe_name 4)) xa_nil)) xe_int)); exact (xs_ret (xe_op op_mod p_mod (xe_callTy call_intA p_int tx.z_int (by decide +kernel) (xa_cons (xe_op op_fdiv p_fdiv (xe_op op_mod p_mod (xe_callTy call_intA p_int tx.z_int (by decide +kernel) (xa_cons (xe_op op_addA p_add (xe_op op_mulA p_mul (xe_name 5) xe_int) (xe_name 3)) xa_nil)) xe_int) xe_int) xa_nil)) (xe_name 1))))
/-! #### _law_cells -/
theorem sc_law_cells : FnScope ["_law_script", "_law_top_so", "_law_cells_so", "_law_k", "_law_cell", "_law_at_so"] ["_law_script", "_law_top_so"] (defScope s_law_cells) := ⟨rfl, rfl, rfl, by decide +kernel, rfl, by decide +kernel, by decide +kernel⟩
theorem b_law_cells (tx : Tx K mg T) : Binds K tx.d_law_cells ["_law_script", "_law_top_so"] [] := tx.F_law_cells.binds fun _ _ _ _ _ _ us hl => match us, hl with | [_, _], _ => rfl
def m_law_cells_g1 : D → Rho → Option Rho := (tupG 2 (consG (nameG 3) (consG (nameG 4) nilG)))
def m_law_cells_b1 : Rho → O := (seqS (asgS 5 (op2E modD (opNE intD (consA (nameE 3) nilA)) (nameE 1)))
  (putItem 2 (op2E addD (op2E atD (nameE 2) (nameE 5)) (op2E mulD (nameE 4) (op2E addD (nameE 3) (constE (.int 2))))) (nameE 5)))
def m_law_cells_l1 : Rho → O := (forS (enumA (consA (slE (nameE 0) (aPart (nameE 1)) (aPart (constE (.int 63)))) nilA)) m_law_cells_g1 m_law_cells_b1)
def m_law_cells : Rho → O := (seqS (asgM 2 (orF (opNF listF (consA (slE (nameE 0) noPart (aPart (nameE 1))) nilA)) (lstF (consA (constE (.int 0)) nilA))))
  (seqS m_law_cells_l1
  (retS (nameE 2))))
def f_law_cells : List D → Res := runF 2 6 m_law_cells
theorem ok_law_cells (tx : Tx K mg T) : FnOk P w K mg base (L2.CX P w) 1 tx.a_law_cells tx.d_law_cells ["_law_script", "_law_top_so"] (spP K T 2 f_law_cells) :=
    fn_pure tx.F_law_cells sc_law_cells (by decide) fun cdv A outer s H E hr tk hp =>
      (xb_cons (xs_setM 2 sc_law_cells.nd (xf_or (xf_callTy call_list_of p_list tx.z_list (by decide +kernel) (xa_cons (xe_sl (xe_name 0) xo_none (xo_some (xe_name 1))) xa_nil)) (xf_lst (xa_cons xe_int xa_nil))))
      (xb_cons (xs_for hp rfl (xi_enumA tx.z_enumerate (xa_cons (xe_sl (xe_name 0) (xo_some (xe_name 1)) (xo_some xe_int)) xa_nil)) (xg_tup rfl (xgs_cons (xg_name 3 sc_law_cells.nd) (xgs_cons (xg_name 4 sc_law_cells.nd) xgs_nil))) (xb_cons (xs_set 5 sc_law_cells.nd (xe_op op_mod p_mod (xe_callTy call_intA p_int tx.z_int (by decide +kernel) (xa_cons (xe_name 3) xa_nil)) (xe_name 1)))
      (xb_one (xs_item 2 (xe_op op_addA p_add (xe_ix ix_seq p_ix (xe_name 2) (xe_name 5)) (xe_op op_mulA p_mul (xe_name 4) (xe_op op_addA p_add (xe_name 3) xe_int))) (xe_name 5)))))
      (xb_one (xs_ret (xe_name 2)))))
/-! #### _law_of -/
theorem sc_law_of : FnScope ["_law_box_here", "_law_goods_so"] ["_law_box_here", "_law_goods_so"] (defScope s_law_of) := ⟨rfl, rfl, rfl, by decide +kernel, rfl, by decide +kernel, by decide +kernel⟩
theorem b_law_of (tx : Tx K mg T) : Binds K tx.d_law_of ["_law_box_here", "_law_goods_so"] [] := tx.F_law_of.binds fun _ _ _ _ _ _ us hl => match us, hl with | [_, _], _ => rfl
def m_law_of : Rho → O := (retS (op2E atD (nameE 1) (callBE f_law_take (consA (nameE 0) (consA (opNE lenD (consA (nameE 1) nilA)) nilA)))))
def f_law_of : List Int → List D → Option (D × List Int) := runB 1 1 m_law_of
theorem ok_law_of (tx : Tx K mg T) : FnOk P w K mg base (L2.CX P w) 2 tx.a_law_of tx.d_law_of ["_law_box_here", "_law_goods_so"] (spB K T 1 f_law_of) :=
    fn_box tx.F_law_of sc_law_of (by decide) rfl rfl fun cdv A outer s H E hr hp =>
      (xb_one (xs_ret (xe_ix ix_seq p_ix (xe_name 1) (xe_callBx (ok_law_take tx) (hr.mono (by decide)) tx.g_law_take tx.F_law_take.kp (b_law_take tx) takes0 runB_len (xa_cons (xe_name 0) (xa_cons (xe_callB call_len p_len tx.z_len (by decide +kernel) (xa_cons (xe_name 1) xa_nil)) xa_nil))))))
/-! #### _law_same -/
theorem sc_law_same : FnScope ["_law_got", "_law_due_here", "_law_a_so", "_law_b_so"] ["_law_got", "_law_due_here"] (defScope s_law_same) := ⟨rfl, rfl, rfl, by decide +kernel, rfl, by decide +kernel, by decide +kernel⟩
theorem b_law_same (tx : Tx K mg T) : Binds K tx.d_law_same ["_law_got", "_law_due_here"] [] := tx.F_law_same.binds fun _ _ _ _ _ _ us hl => match us, hl with | [_, _], _ => rfl
def m_law_same_e1 (self : List D → Res) : Rho → R VD := (callE self (consA (nameE 2) (consA (nameE 3) nilA)))
def m_law_same_c1 (self : List D → Res) : Rho → R (List D) := (compF [2, 3] (zipI (consA (nameE 0) (consA (nameE 1) nilA))) (tupG 2 (consG (nameG 2) (consG (nameG 3) nilG))) yesT (m_law_same_e1 self))
def m_law_same (self : List D → Res) : Rho → O := (seqS (ifS (valT (isiE ["list", "tuple"] (nameE 1))) (seqS (ifS (valT (op2E neD (isiE ["list"] (nameE 0)) (isiE ["list"] (nameE 1)))) (retS (constE (.bl false))) nextS)
  (seqS (ifS (valT (op2E neD (isiE ["tuple"] (nameE 0)) (isiE ["tuple"] (nameE 1)))) (retS (constE (.bl false))) nextS)
  (retS (andE (op2E eqD (opNE lenD (consA (nameE 0) nilA)) (opNE lenD (consA (nameE 1) nilA))) (opNE allD (consA (frzE (m_law_same_c1 self)) nilA)))))) nextS)
  (seqS (ifS (orT (valT (op2E isD (nameE 1) (constE .non))) (valT (isiE ["bool", "str"] (nameE 1)))) (retS (andE (op2E eqD (nameE 0) (nameE 1)) (andE (op2E eqD (isiE ["bool"] (nameE 0)) (isiE ["bool"] (nameE 1))) (op2E eqD (op2E isD (nameE 0) (constE .non)) (op2E isD (nameE 1) (constE .non)))))) nextS)
  (retS (andE (isiE ["int"] (nameE 0)) (andE (notE (isiE ["bool"] (nameE 0))) (op2E eqD (nameE 0) (nameE 1)))))))
def f_law_same : Nat → List D → Res
  | 0 => fun _ => .bad
  | n + 1 => runF 2 4 (m_law_same (f_law_same n))
theorem f_law_same_len : ∀ (n : Nat) (ds : List D), f_law_same n ds ≠ .bad → ds.length = 2
  | 0, _, h => (h rfl).elim
  | n + 1, ds, h => runF_len ds h
theorem ok_law_same (tx : Tx K mg T) : ∀ n : Nat, FnOk P w K mg base (L2.CX P w) (n + 1) tx.a_law_same tx.d_law_same ["_law_got", "_law_due_here"] (spP K T 2 (f_law_same n))
  | 0 => fn_bad tx.F_law_same sc_law_same
  | n + 1 => have ih := ok_law_same tx n
    fn_pure (k := n + 1) tx.F_law_same sc_law_same (by decide) fun cdv A outer s H E hr tk hp =>
      (xb_cons (xs_if (xt_val (xe_isi2 (t := "list") (t' := "tuple") tx.z_isinstance (by decide +kernel) tx.z_list (by decide +kernel) tx.z_tuple (by decide +kernel) (xe_name 1) (by decide) (by decide))) (xb_cons (xs_if (xt_cmp (op_neA hr.units) p_ne (xe_isi1 (t := "list") tx.z_isinstance (by decide +kernel) tx.z_list (by decide +kernel) (xe_name 0) (by decide)) (xe_isi1 (t := "list") tx.z_isinstance (by decide +kernel) tx.z_list (by decide +kernel) (xe_name 1) (by decide))) (xb_one (xs_ret xe_bl)) xb_nil)
      (xb_cons (xs_if (xt_cmp (op_neA hr.units) p_ne (xe_isi1 (t := "tuple") tx.z_isinstance (by decide +kernel) tx.z_tuple (by decide +kernel) (xe_name 0) (by decide)) (xe_isi1 (t := "tuple") tx.z_isinstance (by decide +kernel) tx.z_tuple (by decide +kernel) (xe_name 1) (by decide))) (xb_one (xs_ret xe_bl)) xb_nil)
      (xb_one (xs_ret (xe_and (xe_cmp (op_eqA hr.units) p_eq (xe_callB call_len p_len tx.z_len (by decide +kernel) (xa_cons (xe_name 0) xa_nil)) (xe_callB call_len p_len tx.z_len (by decide +kernel) (xa_cons (xe_name 1) xa_nil))) (xe_one (xe_callB (cr_all rfl) p_all tx.z_all (by decide +kernel) (xa_cons (XF.xe (xf_lc rfl sc_law_same.nd (xi_zip tx.z_zip (xa_cons (xe_name 0) (xa_cons (xe_name 1) xa_nil))) (blkOk_by (own := [("_law_a_so", 2), ("_law_b_so", 3)]) (by kernel_rfl)) (fun _ _ _ _ _ => (xgo_tup rfl (xgos_cons (xgo_name 2 sc_law_same.nd) (xgos_cons (xgo_name 3 sc_law_same.nd) xgos_nil)))) (fun _ _ _ _ _ => xts_nil) (fun _ _ _ _ _ => (xe_call ih (hr.mono (by omega)) tx.g_law_same tx.F_law_same.kp (b_law_same tx) takes0 (f_law_same_len n) (xa_cons (xe_name 2) (xa_cons (xe_name 3) xa_nil)))))) xa_nil)))))))) xb_nil)
      (xb_cons (xs_if (XW.xt (xw_or (xt_cmp op_isN p_is (xe_name 1) xe_non) (xw_or1 (xt_val (xe_isi2 (t := "bool") (t' := "str") tx.z_isinstance (by decide +kernel) tx.z_bool (by decide +kernel) tx.z_str (by decide +kernel) (xe_name 1) (by decide) (by decide)))))) (xb_one (xs_ret (xe_and (xe_cmp (op_eqA hr.units) p_eq (xe_name 0) (xe_name 1)) (xe_and (xe_cmp (op_eqA hr.units) p_eq (xe_isi1 (t := "bool") tx.z_isinstance (by decide +kernel) tx.z_bool (by decide +kernel) (xe_name 0) (by decide)) (xe_isi1 (t := "bool") tx.z_isinstance (by decide +kernel) tx.z_bool (by decide +kernel) (xe_name 1) (by decide))) (xe_one (xe_cmp (op_eqA hr.units) p_eq (xe_cmp op_isN p_is (xe_name 0) xe_non) (xe_cmp op_isN p_is (xe_name 1) xe_non))))))) xb_nil)
      (xb_one (xs_ret (xe_and (xe_isi1 (t := "int") tx.z_isinstance (by decide +kernel) tx.z_int (by decide +kernel) (xe_name 0) (by decide)) (xe_and (xe_not (xe_isi1 (t := "bool") tx.z_isinstance (by decide +kernel) tx.z_bool (by decide +kernel) (xe_name 0) (by decide))) (xe_one (xe_cmp (op_eqA hr.units) p_eq (xe_name 0) (xe_name 1)))))))))
/-! #### _law_lists -/
theorem sc_law_lists : FnScope ["_law_matter", "_law_bit"] ["_law_matter"] (defScope s_law_lists) := ⟨rfl, rfl, rfl, by decide +kernel, rfl, by decide +kernel, by decide +kernel⟩
theorem b_law_lists (tx : Tx K mg T) : Binds K tx.d_law_lists ["_law_matter"] [] := tx.F_law_lists.binds fun _ _ _ _ _ _ us hl => match us, hl with | [_], _ => rfl
def m_law_lists_e1 (self : List D → Res) : Rho → R VD := (callE self (consA (nameE 1) nilA))
def m_law_lists_c1 (self : List D → Res) : Rho → R (List D) := (compF [1] (seqI (nameE 0)) (nameG 1) yesT (m_law_lists_e1 self))
def m_law_lists (self : List D → Res) : Rho → O := (retS (ifE (valT (isiE ["list", "tuple"] (nameE 0))) (frzE (m_law_lists_c1 self)) (nameE 0)))
def f_law_lists : Nat → List D → Res
  | 0 => fun _ => .bad
  | n + 1 => runF 1 2 (m_law_lists (f_law_lists n))
theorem f_law_lists_len : ∀ (n : Nat) (ds : List D), f_law_lists n ds ≠ .bad → ds.length = 1
  | 0, _, h => (h rfl).elim
  | n + 1, ds, h => runF_len ds h
theorem ok_law_lists (tx : Tx K mg T) : ∀ n : Nat, FnOk P w K mg base (L2.CX P w) (n + 1) tx.a_law_lists tx.d_law_lists ["_law_matter"] (spP K T 1 (f_law_lists n))
  | 0 => fn_bad tx.F_law_lists sc_law_lists
  | n + 1 => have ih := ok_law_lists tx n
    fn_pure (k := n + 1) tx.F_law_lists sc_law_lists (by decide) fun cdv A outer s H E hr tk hp =>
      (xb_one (xs_ret (xe_if (xt_val (xe_isi2 (t := "list") (t' := "tuple") tx.z_isinstance (by decide +kernel) tx.z_list (by decide +kernel) tx.z_tuple (by decide +kernel) (xe_name 0) (by decide) (by decide))) (XF.xe (xf_lc rfl sc_law_lists.nd (xi_seq (xe_name 0)) (blkOk_by (own := [("_law_bit", 1)]) (by kernel_rfl)) (fun _ _ _ _ _ => (xgo_name 1 sc_law_lists.nd)) (fun _ _ _ _ _ => xts_nil) (fun _ _ _ _ _ => (xe_call ih (hr.mono (by omega)) tx.g_law_lists tx.F_law_lists.kp (b_law_lists tx) takes0 (f_law_lists_len n) (xa_cons (xe_name 1) xa_nil))))) (xe_name 0))))
/-! #### _law_much -/
theorem sc_law_much : FnScope ["_law_box_here", "_law_high_so"] ["_law_box_here", "_law_high_so"] (defScope s_law_much) := ⟨rfl, rfl, rfl, by decide +kernel, rfl, by decide +kernel, by decide +kernel⟩
theorem b_law_much (tx : Tx K mg T) : Binds K tx.d_law_much ["_law_box_here", "_law_high_so"] [] := tx.F_law_much.binds fun _ _ _ _ _ _ us hl => match us, hl with | [_, _], _ => rfl
def m_law_much : Rho → O := (seqS (ifS (valT (op2E ltD (nameE 1) (op2E powD (constE (.int 10)) (constE (.int 6))))) (retS (op2E addD (constE (.int 1)) (callBE f_law_take (consA (nameE 0) (consA (nameE 1) nilA))))) nextS)
  (retS (op2E addD (op2E mulD (op2E addD (constE (.int 1)) (callBE f_law_take (consA (nameE 0) (consA (constE (.int 9)) nilA)))) (op2E fdivD (nameE 1) (constE (.int 10)))) (callBE f_law_take (consA (nameE 0) (consA (op2E powD (constE (.int 10)) (constE (.int 6))) nilA))))))
def f_law_much : List Int → List D → Option (D × List Int) := runB 1 1 m_law_much
theorem ok_law_much (tx : Tx K mg T) : FnOk P w K mg base (L2.CX P w) 2 tx.a_law_much tx.d_law_much ["_law_box_here", "_law_high_so"] (spB K T 1 f_law_much) :=
    fn_box tx.F_law_much sc_law_much (by decide) rfl rfl fun cdv A outer s H E hr hp =>
      (xb_cons (xs_if (xt_cmp op_ltA p_lt (xe_name 1) (xe_op op_pow p_pow xe_int xe_int)) (xb_one (xs_ret (xe_op op_addA p_add xe_int (xe_callBx (ok_law_take tx) (hr.mono (by decide)) tx.g_law_take tx.F_law_take.kp (b_law_take tx) takes0 runB_len (xa_cons (xe_name 0) (xa_cons (xe_name 1) xa_nil)))))) xb_nil)
      (xb_one (xs_ret (xe_op op_addA p_add (xe_op op_mulA p_mul (xe_op op_addA p_add xe_int (xe_callBx (ok_law_take tx) (hr.mono (by decide)) tx.g_law_take tx.F_law_take.kp (b_law_take tx) takes0 runB_len (xa_cons (xe_name 0) (xa_cons xe_int xa_nil)))) (xe_op op_fdiv p_fdiv (xe_name 1) xe_int)) (xe_callBx (ok_law_take tx) (hr.mono (by decide)) tx.g_law_take tx.F_law_take.kp (b_law_take tx) takes0 runB_len (xa_cons (xe_name 0) (xa_cons (xe_op op_pow p_pow xe_int xe_int) xa_nil)))))))
/-! #### _law_bits -/
theorem sc_law_bits : FnScope ["_law_box_here", "_law_most_so", "_law_high_so", "_law_found", "_law_turn"] ["_law_box_here", "_law_most_so", "_law_high_so"] (defScope s_law_bits) := ⟨rfl, rfl, rfl, by decide +kernel, rfl, by decide +kernel, by decide +kernel⟩
theorem b_law_bits (tx : Tx K mg T) : Binds K tx.d_law_bits ["_law_box_here", "_law_most_so", "_law_high_so"] [] := tx.F_law_bits.binds fun _ _ _ _ _ _ us hl => match us, hl with | [_, _, _], _ => rfl
def m_law_bits_b1 : Rho → O := (dropS (appE 3 (consA (tupE (consA (callBE f_law_of (consA (nameE 0) (consA (frzE (lstF (consA (constE (.str "a")) (consA (constE (.str "b")) nilA)))) nilA))) (consA (callBE f_law_much (consA (nameE 0) (consA (nameE 2) nilA))) nilA))) nilA)))
def m_law_bits_l1 : Rho → O := (forS (rngI1 (consA (callBE f_law_take (consA (nameE 0) (consA (op2E addD (nameE 1) (constE (.int 1))) nilA))) nilA)) (nameG 4) m_law_bits_b1)
def m_law_bits : Rho → O := (seqS (asgM 3 (lstF nilA))
  (seqS m_law_bits_l1
  (retS (opNE tupleTD (consA (nameE 3) nilA)))))
def f_law_bits : List Int → List D → Option (D × List Int) := runB 2 4 m_law_bits
theorem ok_law_bits (tx : Tx K mg T) : FnOk P w K mg base (L2.CX P w) 3 tx.a_law_bits tx.d_law_bits ["_law_box_here", "_law_most_so", "_law_high_so"] (spB K T 2 f_law_bits) :=
    fn_box tx.F_law_bits sc_law_bits (by decide) rfl rfl fun cdv A outer s H E hr hp =>
      (xb_cons (xs_setM 3 sc_law_bits.nd (xf_lst xa_nil))
      (xb_cons (xs_for hp rfl (xi_range1 tx.z_range (xa_cons (xe_callBx (ok_law_take tx) (hr.mono (by decide)) tx.g_law_take tx.F_law_take.kp (b_law_take tx) takes0 runB_len (xa_cons (xe_name 0) (xa_cons (xe_op op_addA p_add (xe_name 1) xe_int) xa_nil))) xa_nil)) (xg_name 4 sc_law_bits.nd) (xb_one (xs_expr (xe_append 3 (xa_cons (xe_tup (xa_cons (xe_callBx (ok_law_of tx) (hr.mono (by decide)) tx.g_law_of tx.F_law_of.kp (b_law_of tx) takes0 runB_len (xa_cons (xe_name 0) (xa_cons (XF.xe (xf_lst (xa_cons xe_str (xa_cons xe_str xa_nil)))) xa_nil))) (xa_cons (xe_callBx (ok_law_much tx) (hr.mono (by decide)) tx.g_law_much tx.F_law_much.kp (b_law_much tx) takes0 runB_len (xa_cons (xe_name 0) (xa_cons (xe_name 2) xa_nil))) xa_nil))) xa_nil)))))
      (xb_one (xs_ret (xe_callTy (call_tupleA rfl) p_tupleT tx.z_tuple (by decide +kernel) (xa_cons (xe_name 3) xa_nil))))))
/-! #### _law_joined -/
theorem sc_law_joined : FnScope ["_law_bits_so", "_law_found", "_law_tag", "_law_much_so"] ["_law_bits_so"] (defScope s_law_joined) := ⟨rfl, rfl, rfl, by decide +kernel, rfl, by decide +kernel, by decide +kernel⟩
theorem b_law_joined (tx : Tx K mg T) : Binds K tx.d_law_joined ["_law_bits_so"] [] := tx.F_law_joined.binds fun _ _ _ _ _ _ us hl => match us, hl with | [_], _ => rfl
def m_law_joined_g1 : D → Rho → Option Rho := (tupG 2 (consG (nameG 2) (consG (nameG 3) nilG)))
def m_law_joined_b1 : Rho → O := (ifS (andT (valT (op2E neD (nameE 1) (frzE (lstF nilA)))) (valT (op2E eqD (op2E atD (op2E atD (nameE 1) (op1E negD (constE (.int 1)))) (constE (.int 0))) (nameE 2)))) (putItem 1 (tupE (consA (nameE 2) (consA (op2E addD (op2E atD (op2E atD (nameE 1) (op1E negD (constE (.int 1)))) (constE (.int 1))) (nameE 3)) nilA))) (op1E negD (constE (.int 1)))) (dropS (appE 1 (consA (tupE (consA (nameE 2) (consA (nameE 3) nilA))) nilA))))
def m_law_joined_l1 : Rho → O := (forS (seqI (nameE 0)) m_law_joined_g1 m_law_joined_b1)
def m_law_joined : Rho → O := (seqS (asgM 1 (lstF nilA))
  (seqS m_law_joined_l1
  (retS (opNE tupleTD (consA (nameE 1) nilA)))))
def f_law_joined : List D → Res := runF 1 4 m_law_joined
theorem ok_law_joined (tx : Tx K mg T) : FnOk P w K mg base (L2.CX P w) 1 tx.a_law_joined tx.d_law_joined ["_law_bits_so"] (spP K T 1 f_law_joined) :=
    fn_pure tx.F_law_joined sc_law_joined (by decide) fun cdv A outer s H E hr tk hp =>
      (xb_cons (xs_setM 1 sc_law_joined.nd (xf_lst xa_nil))
      (xb_cons (xs_for hp rfl (xi_seq (xe_name 0)) (xg_tup rfl (xgs_cons (xg_name 2 sc_law_joined.nd) (xgs_cons (xg_name 3 sc_law_joined.nd) xgs_nil))) (xb_one (xs_if (XW.xt (xw_and (xt_cmp (op_neA hr.units) p_ne (xe_name 1) (XF.xe (xf_lst xa_nil))) (xw_and1 (xt_cmp (op_eqA hr.units) p_eq (xe_ix ix_seq p_ix (xe_ix ix_seq p_ix (xe_name 1) (xe_un un_neg p_neg xe_int)) xe_int) (xe_name 2))))) (xb_one (xs_item 1 (xe_tup (xa_cons (xe_name 2) (xa_cons (xe_op op_addA p_add (xe_ix ix_seq p_ix (xe_ix ix_seq p_ix (xe_name 1) (xe_un un_neg p_neg xe_int)) xe_int) (xe_name 3)) xa_nil))) (xe_un un_neg p_neg xe_int))) (xb_one (xs_expr (xe_append 1 (xa_cons (xe_tup (xa_cons (xe_name 2) (xa_cons (xe_name 3) xa_nil))) xa_nil)))))))
      (xb_one (xs_ret (xe_callTy (call_tupleA rfl) p_tupleT tx.z_tuple (by decide +kernel) (xa_cons (xe_name 1) xa_nil))))))
/-! #### Turns.size -/
theorem sc_T_size : FnScope ["self", "heir", "number"] ["self"] (defScope s_T_size) := ⟨rfl, rfl, rfl, by decide +kernel, rfl, by decide +kernel, by decide +kernel⟩
theorem b_T_size (tx : Tx K mg T) : Binds K tx.d_T_size ["self"] [] := tx.F_T_size.binds fun _ _ _ _ _ _ us hl => match us, hl with | [_], _ => rfl
def m_T_size_e1 : Rho → R VD := (nameE 2)
def m_T_size_c1 : Rho → R (List D) := (compF [1, 2] (seqI (op1E (slotD 20 1) (nameE 0))) (tupG 2 (consG (nameG 1) (consG (nameG 2) nilG))) yesT m_T_size_e1)
def m_T_size : Rho → O := (retS (opNE sumD (consA (frzE m_T_size_c1) nilA)))
def f_T_size : List D → Res := runF 1 3 m_T_size
theorem ok_T_size (tx : Tx K mg T) : FnOk P w K mg base (L2.CX P w) 1 tx.a_T_size tx.d_T_size ["self"] (spP K T 1 f_T_size) :=
    fn_pure tx.F_T_size sc_T_size (by decide) fun cdv A outer s H E hr tk hp =>
      (xb_one (xs_ret (xe_callB (cr_sum rfl) p_sum tx.z_sum (by decide +kernel) (xa_cons (XF.xe (xf_lc rfl sc_T_size.nd (xi_seq (xe_slot (t := 20) rfl tx.scT tx.sT1 (xe_name 0))) (blkOk_by (own := [("heir", 1), ("number", 2)]) (by kernel_rfl)) (fun _ _ _ _ _ => (xgo_tup rfl (xgos_cons (xgo_name 1 sc_T_size.nd) (xgos_cons (xgo_name 2 sc_T_size.nd) xgos_nil)))) (fun _ _ _ _ _ => xts_nil) (fun _ _ _ _ _ => (xe_name 2)))) xa_nil))))
/-! #### Turns.hers -/
theorem sc_T_hers : FnScope ["self", "heir", "number"] ["self"] (defScope s_T_hers) := ⟨rfl, rfl, rfl, by decide +kernel, rfl, by decide +kernel, by decide +kernel⟩
theorem b_T_hers (tx : Tx K mg T) : Binds K tx.d_T_hers ["self"] [] := tx.F_T_hers.binds fun _ _ _ _ _ _ us hl => match us, hl with | [_], _ => rfl
def m_T_hers_t1 : Rho → R Bool := (valT (op2E eqD (nameE 1) (constE (.str "a"))))
def m_T_hers_e1 : Rho → R VD := (nameE 2)
def m_T_hers_c1 : Rho → R (List D) := (compF [1, 2] (seqI (op1E (slotD 20 1) (nameE 0))) (tupG 2 (consG (nameG 1) (consG (nameG 2) nilG))) m_T_hers_t1 m_T_hers_e1)
def m_T_hers : Rho → O := (retS (opNE sumD (consA (frzE m_T_hers_c1) nilA)))
def f_T_hers : List D → Res := runF 1 3 m_T_hers
theorem ok_T_hers (tx : Tx K mg T) : FnOk P w K mg base (L2.CX P w) 1 tx.a_T_hers tx.d_T_hers ["self"] (spP K T 1 f_T_hers) :=
    fn_pure tx.F_T_hers sc_T_hers (by decide) fun cdv A outer s H E hr tk hp =>
      (xb_one (xs_ret (xe_callB (cr_sum rfl) p_sum tx.z_sum (by decide +kernel) (xa_cons (XF.xe (xf_lc rfl sc_T_hers.nd (xi_seq (xe_slot (t := 20) rfl tx.scT tx.sT1 (xe_name 0))) (blkOk_by (own := [("heir", 1), ("number", 2)]) (by kernel_rfl)) (fun _ _ _ _ _ => (xgo_tup rfl (xgos_cons (xgo_name 1 sc_T_hers.nd) (xgos_cons (xgo_name 2 sc_T_hers.nd) xgos_nil)))) (fun _ _ _ _ _ => (xts_one (xt_cmp (op_eqA hr.units) p_eq (xe_name 1) xe_str))) (fun _ _ _ _ _ => (xe_name 2)))) xa_nil))))
/-! #### Turns.his -/
theorem sc_T_his : FnScope ["self", "heir", "number"] ["self"] (defScope s_T_his) := ⟨rfl, rfl, rfl, by decide +kernel, rfl, by decide +kernel, by decide +kernel⟩
theorem b_T_his (tx : Tx K mg T) : Binds K tx.d_T_his ["self"] [] := tx.F_T_his.binds fun _ _ _ _ _ _ us hl => match us, hl with | [_], _ => rfl
def m_T_his_t1 : Rho → R Bool := (valT (op2E eqD (nameE 1) (constE (.str "b"))))
def m_T_his_e1 : Rho → R VD := (nameE 2)
def m_T_his_c1 : Rho → R (List D) := (compF [1, 2] (seqI (op1E (slotD 20 1) (nameE 0))) (tupG 2 (consG (nameG 1) (consG (nameG 2) nilG))) m_T_his_t1 m_T_his_e1)
def m_T_his : Rho → O := (retS (opNE sumD (consA (frzE m_T_his_c1) nilA)))
def f_T_his : List D → Res := runF 1 3 m_T_his
theorem ok_T_his (tx : Tx K mg T) : FnOk P w K mg base (L2.CX P w) 1 tx.a_T_his tx.d_T_his ["self"] (spP K T 1 f_T_his) :=
    fn_pure tx.F_T_his sc_T_his (by decide) fun cdv A outer s H E hr tk hp =>
      (xb_one (xs_ret (xe_callB (cr_sum rfl) p_sum tx.z_sum (by decide +kernel) (xa_cons (XF.xe (xf_lc rfl sc_T_his.nd (xi_seq (xe_slot (t := 20) rfl tx.scT tx.sT1 (xe_name 0))) (blkOk_by (own := [("heir", 1), ("number", 2)]) (by kernel_rfl)) (fun _ _ _ _ _ => (xgo_tup rfl (xgos_cons (xgo_name 1 sc_T_his.nd) (xgos_cons (xgo_name 2 sc_T_his.nd) xgos_nil)))) (fun _ _ _ _ _ => (xts_one (xt_cmp (op_eqA hr.units) p_eq (xe_name 1) xe_str))) (fun _ _ _ _ _ => (xe_name 2)))) xa_nil))))
/-! #### Turns.ends -/
theorem sc_T_ends : FnScope ["self"] ["self"] (defScope s_T_ends) := ⟨rfl, rfl, rfl, by decide +kernel, rfl, by decide +kernel, by decide +kernel⟩
theorem b_T_ends (tx : Tx K mg T) : Binds K tx.d_T_ends ["self"] [] := tx.F_T_ends.binds fun _ _ _ _ _ _ us hl => match us, hl with | [_], _ => rfl
def m_T_ends : Rho → O := (retS (op1E (slotD 20 0) (nameE 0)))
def f_T_ends : List D → Res := runF 1 1 m_T_ends
theorem ok_T_ends (tx : Tx K mg T) : FnOk P w K mg base (L2.CX P w) 1 tx.a_T_ends tx.d_T_ends ["self"] (spP K T 1 f_T_ends) :=
    fn_pure tx.F_T_ends sc_T_ends (by decide) fun cdv A outer s H E hr tk hp =>
      (xb_one (xs_ret (xe_slot (t := 20) rfl tx.scT tx.sT0 (xe_name 0))))
/-! #### Turns.__len__ -/
theorem sc_T_len : FnScope ["self"] ["self"] (defScope s_T_len) := ⟨rfl, rfl, rfl, by decide +kernel, rfl, by decide +kernel, by decide +kernel⟩
theorem b_T_len (tx : Tx K mg T) : Binds K tx.d_T_len ["self"] [] := tx.F_T_len.binds fun _ _ _ _ _ _ us hl => match us, hl with | [_], _ => rfl
def m_T_len : Rho → O := (retS (opNE lenD (consA (op1E (slotD 20 1) (nameE 0)) nilA)))
def f_T_len : List D → Res := runF 1 1 m_T_len
theorem ok_T_len (tx : Tx K mg T) : FnOk P w K mg base (L2.CX P w) 1 tx.a_T_len tx.d_T_len ["self"] (spP K T 1 f_T_len) :=
    fn_pure tx.F_T_len sc_T_len (by decide) fun cdv A outer s H E hr tk hp =>
      (xb_one (xs_ret (xe_callB call_len p_len tx.z_len (by decide +kernel) (xa_cons (xe_slot (t := 20) rfl tx.scT tx.sT1 (xe_name 0)) xa_nil))))
/-! #### _law_shown -/
theorem sc_law_shown : FnScope ["_law_told"] ["_law_told"] (defScope s_law_shown) := ⟨rfl, rfl, rfl, by decide +kernel, rfl, by decide +kernel, by decide +kernel⟩
theorem b_law_shown (tx : Tx K mg T) : Binds K tx.d_law_shown ["_law_told"] [] := tx.F_law_shown.binds fun _ _ _ _ _ _ us hl => match us, hl with | [_], _ => rfl
def m_law_shown : Rho → O := (retS (frzE (lstF (consA (op1E (propD 20 f_T_runs) (nameE 0)) (consA (op1E (propD 20 f_T_size) (nameE 0)) (consA (op1E (propD 20 f_T_hers) (nameE 0)) (consA (op1E (propD 20 f_T_his) (nameE 0)) (consA (op1E (propD 20 f_T_ends) (nameE 0)) (consA (opNE (lenTD 20 f_T_len) (consA (nameE 0) nilA)) nilA)))))))))
def f_law_shown : List D → Res := runF 1 1 m_law_shown
theorem ok_law_shown (tx : Tx K mg T) : FnOk P w K mg base (L2.CX P w) 3 tx.a_law_shown tx.d_law_shown ["_law_told"] (spP K T 1 f_law_shown) :=
    fn_pure tx.F_law_shown sc_law_shown (by decide) fun cdv A outer s H E hr tk hp =>
      (xb_one (xs_ret (XF.xe (xf_lst (xa_cons (xe_prop (t := 20) rfl tx.scT tx.pf_T_runs.at_ tx.pf_T_runs.get tx.pf_T_runs.tk tx.pf_T_runs.rc (ok_T_runs tx) (b_T_runs tx) (hr.mono (by decide)) (xe_name 0)) (xa_cons (xe_prop (t := 20) rfl tx.scT tx.pf_T_size.at_ tx.pf_T_size.get tx.pf_T_size.tk tx.pf_T_size.rc (ok_T_size tx) (b_T_size tx) (hr.mono (by decide)) (xe_name 0)) (xa_cons (xe_prop (t := 20) rfl tx.scT tx.pf_T_hers.at_ tx.pf_T_hers.get tx.pf_T_hers.tk tx.pf_T_hers.rc (ok_T_hers tx) (b_T_hers tx) (hr.mono (by decide)) (xe_name 0)) (xa_cons (xe_prop (t := 20) rfl tx.scT tx.pf_T_his.at_ tx.pf_T_his.get tx.pf_T_his.tk tx.pf_T_his.rc (ok_T_his tx) (b_T_his tx) (hr.mono (by decide)) (xe_name 0)) (xa_cons (xe_prop (t := 20) rfl tx.scT tx.pf_T_ends.at_ tx.pf_T_ends.get tx.pf_T_ends.tk tx.pf_T_ends.rc (ok_T_ends tx) (b_T_ends tx) (hr.mono (by decide)) (xe_name 0)) (xa_cons (xe_callB (call_lenAT (t := 20) tx.mf_T_len (ok_T_len tx) (b_T_len tx) (hr.mono (by decide))) (p_lenT rfl) tx.z_len (by decide +kernel) (xa_cons (xe_name 0) xa_nil)) xa_nil))))))))))
/-! #### _law_kept -/
theorem sc_law_kept : FnScope ["_law_bits_so", "_law_found", "_law_wrong_so", "error_so"] ["_law_bits_so"] (defScope s_law_kept) := ⟨rfl, rfl, rfl, by decide +kernel, rfl, by decide +kernel, by decide +kernel⟩
theorem b_law_kept (tx : Tx K mg T) : Binds K tx.d_law_kept ["_law_bits_so"] [] := tx.F_law_kept.binds fun _ _ _ _ _ _ us hl => match us, hl with | [_], _ => rfl
def m_law_kept : Rho → O := (seqS (parS [1, 2] (consMd (constE .non) (consMd (constE .non) nilM)))
  (seqS (tryS (asgS 1 (callE f_T_init (consA (nameE 0) nilA))) (hAs [(0, true), (1, false), (4, false)] 3 (asgS 2 (nameE 3)) hNil))
  (seqS (ifS (valT (op2E isD (nameE 2) (constE .non))) (retS (callE f_law_shown (consA (nameE 1) nilA))) nextS)
  (retS (frzE (lstF (consA (op1E (fldD [0] "place") (nameE 2)) (consA (op1E (isErrD [(0, true), (1, true), (4, true)]) (nameE 2)) (consA (op1E (isErrD [(0, true), (1, true), (4, true)]) (nameE 2)) nilA)))))))))
def f_law_kept : List D → Res := runF 1 4 m_law_kept
theorem ok_law_kept (tx : Tx K mg T) : FnOk P w K mg base (L2.CX P w) 12 tx.a_law_kept tx.d_law_kept ["_law_bits_so"] (spP K T 1 f_law_kept) :=
    fn_pure tx.F_law_kept sc_law_kept (by decide) fun cdv A outer s H E hr tk hp =>
      (xb_cons (by first | exact (xs_par2 1 2 rfl sc_law_kept.nd (xm_d xe_non (xm_d xe_non xm_nil))) | exact (xs_parN (is := [1, 2]) rfl (by decide) rfl (by decide) (xm_d xe_non (xm_d xe_non xm_nil)) (pgs_names (pgs_cons (pg_name (i := 1) sc_law_kept.nd rfl (by first | exact Or.inl rfl | exact Or.inr rfl)) (pgs_cons (pg_name (i := 2) sc_law_kept.nd rfl (by first | exact Or.inl rfl | exact Or.inr rfl)) pgs_nil)) (gn_cons (i := 1) (gn_cons (i := 2) gn_nil)))))
      (xb_cons (xs_try rfl rfl (fun W' pn xe tk hp => (xb_one (xs_set 1 sc_law_kept.nd (xe_make (t := 20) tx.mT (ok_T_init tx) (hr.mono (by decide)) tx.gT (bT1 tx) tk initT_len initT_obj (xa_cons (xe_name 0) xa_nil))))) (xh_as 3 rfl rfl rfl sc_law_kept.nd ⟨rfl, by decide, .inl tx.E_BadRun.gC⟩ (hx_BadRun tx) (fun _ _ => (xb_one (xs_set 2 sc_law_kept.nd (xe_name 3)))) (xh_nil rfl rfl tk)))
      (xb_cons (xs_if (xt_cmp op_isN p_is (xe_name 2) xe_non) (xb_one (xs_ret (xe_call (ok_law_shown tx) (hr.mono (by decide)) tx.g_law_shown tx.F_law_shown.kp (b_law_shown tx) tk runF_len (xa_cons (xe_name 1) xa_nil)))) xb_nil)
      (xb_one (xs_ret (XF.xe (xf_lst (xa_cons (xe_efld (ts := [0]) (exf_cons tx.E_BadRun.xf tx.E_BadRun.noF exf_nil) (xe_name 2)) (xa_cons (xe_isErr (ex := [(0, true), (1, true), (4, true)]) tx.z_isinstance tx.gH (hi_HeirError tx) (xe_name 2)) (xa_cons (xe_isErrB (ex := [(0, true), (1, true), (4, true)]) tx.z_isinstance tx.z_ValueError (by decide +kernel) (hi_ValueError tx) (xe_name 2)) xa_nil))))))))))
/-! #### _law_due -/
theorem sc_law_due : FnScope ["_law_bits_so", "_law_runs_so", "_law_mine", "_law_its", "_law_ends_so", "_law_k", "_law_own"] ["_law_bits_so"] (defScope s_law_due) := ⟨rfl, rfl, rfl, by decide +kernel, rfl, by decide +kernel, by decide +kernel⟩
theorem b_law_due (tx : Tx K mg T) : Binds K tx.d_law_due ["_law_bits_so"] [] := tx.F_law_due.binds fun _ _ _ _ _ _ us hl => match us, hl with | [_], _ => rfl
def m_law_due_t1 : Rho → R Bool := (valT (op2E eqD (op2E atD (nameE 6) (constE (.int 0))) (constE (.str "a"))))
def m_law_due_e1 : Rho → R VD := (op2E atD (nameE 6) (constE (.int 1)))
def m_law_due_c1 : Rho → R (List D) := (compF [6] (seqI (nameE 1)) (nameG 6) m_law_due_t1 m_law_due_e1)
def m_law_due_t2 : Rho → R Bool := (valT (op2E eqD (op2E atD (nameE 6) (constE (.int 0))) (constE (.str "b"))))
def m_law_due_e2 : Rho → R VD := (op2E atD (nameE 6) (constE (.int 1)))
def m_law_due_c2 : Rho → R (List D) := (compF [6] (seqI (nameE 1)) (nameG 6) m_law_due_t2 m_law_due_e2)
def m_law_due_e3 : Rho → R VD := (op2E atD (nameE 6) (constE (.int 1)))
def m_law_due_c3 : Rho → R (List D) := (compF [6] (seqI (slE (nameE 1) noPart (aPart (op2E addD (nameE 5) (constE (.int 1)))))) (nameG 6) yesT m_law_due_e3)
def m_law_due_e4 : Rho → R VD := (opNE sumD (consA (frzE m_law_due_c3) nilA))
def m_law_due_c4 : Rho → R (List D) := (compF [5] (rngI1 (consA (opNE lenD (consA (nameE 1) nilA)) nilA)) (nameG 5) yesT m_law_due_e4)
def m_law_due : Rho → O := (seqS (asgS 1 (callE f_law_joined (consA (nameE 0) nilA)))
  (seqS (asgS 2 (opNE sumD (consA (frzE m_law_due_c1) nilA)))
  (seqS (asgS 3 (opNE sumD (consA (frzE m_law_due_c2) nilA)))
  (seqS (asgS 4 (frzE m_law_due_c4))
  (retS (frzE (lstF (consA (nameE 1) (consA (op2E addD (nameE 2) (nameE 3)) (consA (nameE 2) (consA (nameE 3) (consA (opNE tupleTD (consA (nameE 4) nilA)) (consA (opNE lenD (consA (nameE 1) nilA)) nilA)))))))))))))
def f_law_due : List D → Res := runF 1 7 m_law_due
theorem ok_law_due (tx : Tx K mg T) : FnOk P w K mg base (L2.CX P w) 2 tx.a_law_due tx.d_law_due ["_law_bits_so"] (spP K T 1 f_law_due) :=
    fn_pure tx.F_law_due sc_law_due (by decide) fun cdv A outer s H E hr tk hp =>
      (xb_cons (xs_set 1 sc_law_due.nd (xe_call (ok_law_joined tx) (hr.mono (by decide)) tx.g_law_joined tx.F_law_joined.kp (b_law_joined tx) tk runF_len (xa_cons (xe_name 0) xa_nil)))
      (xb_cons (xs_set 2 sc_law_due.nd (xe_callB (cr_sum rfl) p_sum tx.z_sum (by decide +kernel) (xa_cons (XF.xe (xf_lc rfl sc_law_due.nd (xi_seq (xe_name 1)) (blkOk_by (own := [("_law_own", 6)]) (by kernel_rfl)) (fun _ _ _ _ _ => (xgo_name 6 sc_law_due.nd)) (fun _ _ _ _ _ => (xts_one (xt_cmp (op_eqA hr.units) p_eq (xe_ix ix_seq p_ix (xe_name 6) xe_int) xe_str))) (fun _ _ _ _ _ => (xe_ix ix_seq p_ix (xe_name 6) xe_int)))) xa_nil)))
      (xb_cons (xs_set 3 sc_law_due.nd (xe_callB (cr_sum rfl) p_sum tx.z_sum (by decide +kernel) (xa_cons (XF.xe (xf_lc rfl sc_law_due.nd (xi_seq (xe_name 1)) (blkOk_by (own := [("_law_own", 6)]) (by kernel_rfl)) (fun _ _ _ _ _ => (xgo_name 6 sc_law_due.nd)) (fun _ _ _ _ _ => (xts_one (xt_cmp (op_eqA hr.units) p_eq (xe_ix ix_seq p_ix (xe_name 6) xe_int) xe_str))) (fun _ _ _ _ _ => (xe_ix ix_seq p_ix (xe_name 6) xe_int)))) xa_nil)))
      (xb_cons (xs_setLc 4 rfl sc_law_due.nd (xi_range1 tx.z_range (xa_cons (xe_callB call_len p_len tx.z_len (by decide +kernel) (xa_cons (xe_name 1) xa_nil)) xa_nil)) (blkOk_by (own := [("_law_k", 5)]) (by kernel_rfl)) (fun _ _ _ _ _ => (xgo_name 5 sc_law_due.nd)) (fun _ _ _ _ _ => xts_nil) (fun _ _ _ _ _ => (xe_callB (cr_sum rfl) p_sum tx.z_sum (by decide +kernel) (xa_cons (XF.xe (xf_lc rfl sc_law_due.nd (xi_seq (xe_sl (xe_name 1) xo_none (xo_some (xe_op op_addA p_add (xe_name 5) xe_int)))) (blkOk_by (own := [("_law_own", 6)]) (by kernel_rfl)) (fun _ _ _ _ _ => (xgo_name 6 sc_law_due.nd)) (fun _ _ _ _ _ => xts_nil) (fun _ _ _ _ _ => (xe_ix ix_seq p_ix (xe_name 6) xe_int)))) xa_nil))) (sw_true rfl rfl rfl (by decide +kernel)))
      (xb_one (xs_ret (XF.xe (xf_lst (xa_cons (xe_name 1) (xa_cons (xe_op op_addA p_add (xe_name 2) (xe_name 3)) (xa_cons (xe_name 2) (xa_cons (xe_name 3) (xa_cons (xe_callTy (call_tupleA rfl) p_tupleT tx.z_tuple (by decide +kernel) (xa_cons (xe_name 4) xa_nil)) (xa_cons (xe_callB call_len p_len tx.z_len (by decide +kernel) (xa_cons (xe_name 1) xa_nil)) xa_nil))))))))))))))
/-! #### _law_kinds_right -/
theorem sc_law_kinds_right : FnScope ["_law_odd", "_law_fine", "_law_got", "_law_own"] [] (defScope s_law_kinds_right) := ⟨rfl, rfl, rfl, by decide +kernel, rfl, by decide +kernel, by decide +kernel⟩
theorem kw_law_kinds_right (tx : Tx K mg T) : KwB K tx.d_law_kinds_right [] := kwB_of tx.F_law_kinds_right fun _ _ _ _ _ _ us hl => match us, hl with | [], _ => rfl
def m_law_kinds_right_e1 : Rho → R VD := (callE f_is_runs (consA (nameE 3) nilA))
def m_law_kinds_right_c1 : Rho → R (List D) := (compF [3] (seqI (nameE 0)) (nameG 3) yesT m_law_kinds_right_e1)
def m_law_kinds_right_e2 : Rho → R VD := (callE f_is_runs (consA (nameE 3) nilA))
def m_law_kinds_right_c2 : Rho → R (List D) := (compF [3] (seqI (nameE 1)) (nameG 3) yesT m_law_kinds_right_e2)
def m_law_kinds_right : Rho → O := (seqS (asgS 0 (frzE (lstF (consA (frzE (lstF (consA (tupE (consA (constE (.str "a")) (consA (constE (.int 1)) nilA))) nilA))) (consA (tupE (consA (tupE (consA (constE (.str "a")) (consA (constE (.int 0)) nilA))) nilA)) (consA (tupE (consA (tupE (consA (constE (.str "a")) (consA (constE (.int 1)) nilA))) (consA (tupE (consA (constE (.str "a")) (consA (constE (.int 2)) nilA))) nilA))) (consA (tupE (consA (tupE (consA (constE (.str "A")) (consA (constE (.int 1)) nilA))) nilA)) (consA (tupE (consA (tupE (consA (constE (.str "")) (consA (constE (.int 1)) nilA))) nilA)) (consA (tupE (consA (tupE (consA (constE (.str "a")) (consA (constE (.bl true)) nilA))) nilA)) nilA)))))))))
  (seqS (asgS 0 (op2E addD (nameE 0) (frzE (lstF (consA (tupE (consA (tupE (consA (constE (.str "a")) nilA)) nilA)) (consA (tupE (consA (constE (.str "a")) (consA (constE (.int 1)) nilA))) nilA))))))
  (seqS (asgS 0 (op2E addD (nameE 0) (frzE (lstF (consA (constE .non) (consA (constE (.int 7)) (consA (constE (.str "a")) (consA (tupE (consA (frzE (lstF (consA (constE (.str "a")) (consA (constE (.int 1)) nilA)))) nilA)) (consA (tupE (consA (tupE (consA (constE (.str "ab")) (consA (constE (.int 1)) nilA))) nilA)) (consA (tupE (consA (tupE (consA (constE (.int 1)) (consA (constE (.str "a")) nilA))) nilA)) (consA (tupE (consA (tupE (consA (constE (.str "a")) (consA (constE (.int 1)) (consA (constE (.int 2)) nilA)))) nilA)) (consA (tupE (consA (tupE (consA (constE (.str "a")) (consA (constE .non) nilA))) nilA)) nilA))))))))))))
  (seqS (asgS 0 (op2E addD (nameE 0) (frzE (lstF (consA (tupE (consA (tupE (consA (constE (.str "b")) (consA (op1E negD (constE (.int 1))) nilA))) nilA)) (consA (tupE (consA (tupE nilA) nilA)) nilA))))))
  (seqS (asgS 0 (op2E addD (nameE 0) (frzE (lstF (consA (tupE (consA (constE .non) nilA)) (consA (tupE (consA (tupE (consA (constE (.str "a")) (consA (constE (.int 1)) nilA))) (consA (constE .non) nilA))) (consA (tupE (consA (tupE (consA (constE (.str "a")) (consA (constE (.str "1")) nilA))) nilA)) (consA (tupE (consA (tupE (consA (constE (.str "b")) (consA (constE (.int 2)) nilA))) (consA (tupE (consA (constE (.str "a")) (consA (constE (.int 1)) nilA))) (consA (tupE (consA (constE (.str "a")) (consA (constE (.int 1)) nilA))) nilA)))) (consA (tupE (consA (tupE (consA (constE (.str "c")) (consA (constE (.int 1)) nilA))) nilA)) nilA)))))))))
  (seqS (asgS 0 (op2E addD (nameE 0) (frzE (lstF (consA (tupE (consA (tupE (consA (tupE (consA (constE (.str "a")) nilA)) (consA (constE (.int 1)) nilA))) nilA)) nilA)))))
  (seqS (asgS 1 (frzE (lstF (consA (tupE nilA) (consA (tupE (consA (tupE (consA (constE (.str "a")) (consA (constE (.int 1)) nilA))) nilA)) (consA (tupE (consA (tupE (consA (constE (.str "a")) (consA (constE (.int 1)) nilA))) (consA (tupE (consA (constE (.str "b")) (consA (constE (.int 1)) nilA))) (consA (tupE (consA (constE (.str "a")) (consA (constE (.int 1)) nilA))) nilA)))) (consA (tupE (consA (tupE (consA (constE (.str "b")) (consA (op2E powD (constE (.int 10)) (constE (.int 40))) nilA))) nilA)) nilA)))))))
  (seqS (asgS 1 (op2E addD (nameE 1) (frzE (lstF (consA (op2E mulTD (tupE (consA (tupE (consA (constE (.str "a")) (consA (constE (.int 1)) nilA))) (consA (tupE (consA (constE (.str "b")) (consA (constE (.int 2)) nilA))) nilA))) (constE (.int 50))) nilA)))))
  (seqS (asgS 2 (op2E addD (op2E addD (frzE m_law_kinds_right_c1) (frzE m_law_kinds_right_c2)) (frzE (lstF (consA (callE f_is_runs (consA (tupE (consA (tupE (consA (constE (.str "b")) (consA (constE (.int 3)) nilA))) nilA)) nilA)) nilA)))))
  (retS (callE (f_law_same 8) (consA (nameE 2) (consA (op2E addD (op2E mulD (frzE (lstF (consA (constE (.bl false)) nilA))) (constE (.int 24))) (op2E mulD (frzE (lstF (consA (constE (.bl true)) nilA))) (constE (.int 6)))) nilA)))))))))))))
def f0_law_kinds_right : List D → Res := runF 0 4 m_law_kinds_right
theorem ok0_law_kinds_right (tx : Tx K mg T) : FnOk P w K mg base (L2.CX P w) 10 tx.a_law_kinds_right tx.d_law_kinds_right [] (spP K T 0 f0_law_kinds_right) := by
  refine fn_pure tx.F_law_kinds_right sc_law_kinds_right (by decide) fun cdv A outer s H E hr tk hp => (xb_cons ?_ (xb_cons ?_ (xb_cons ?_ (xb_cons ?_ (xb_cons ?_ (xb_cons ?_ (xb_cons ?_ (xb_cons ?_ (xb_cons ?_ (xb_one ?_))))))))))
  · exact (xs_set 0 sc_law_kinds_right.nd (XF.xe (xf_lst (xa_cons (XF.xe (xf_lst (xa_cons (xe_tup (xa_cons xe_str (xa_cons xe_int xa_nil))) xa_nil))) (xa_cons (xe_tup (xa_cons (xe_tup (xa_cons xe_str (xa_cons xe_int xa_nil))) xa_nil)) (xa_cons (xe_tup (xa_cons (xe_tup (xa_cons xe_str (xa_cons xe_int xa_nil))) (xa_cons (xe_tup (xa_cons xe_str (xa_cons xe_int xa_nil))) xa_nil))) (xa_cons (xe_tup (xa_cons (xe_tup (xa_cons xe_str (xa_cons xe_int xa_nil))) xa_nil)) (xa_cons (xe_tup (xa_cons (xe_tup (xa_cons xe_str (xa_cons xe_int xa_nil))) xa_nil)) (xa_cons (xe_tup (xa_cons (xe_tup (xa_cons xe_str (xa_cons xe_bl xa_nil))) xa_nil)) xa_nil)))))))))
  · exact (xs_set 0 sc_law_kinds_right.nd (xe_op op_addA p_add (xe_name 0) (XF.xe (xf_lst (xa_cons (xe_tup (xa_cons (xe_tup (xa_cons xe_str xa_nil)) xa_nil)) (xa_cons (xe_tup (xa_cons xe_str (xa_cons xe_int xa_nil))) xa_nil))))))
  · exact (xs_set 0 sc_law_kinds_right.nd (xe_op op_addA p_add (xe_name 0) (XF.xe (xf_lst (xa_cons xe_non (xa_cons xe_int (xa_cons xe_str (xa_cons (xe_tup (xa_cons (XF.xe (xf_lst (xa_cons xe_str (xa_cons xe_int xa_nil)))) xa_nil)) (xa_cons (xe_tup (xa_cons (xe_tup (xa_cons xe_str (xa_cons xe_int xa_nil))) xa_nil)) (xa_cons (xe_tup (xa_cons (xe_tup (xa_cons xe_int (xa_cons xe_str xa_nil))) xa_nil)) (xa_cons (xe_tup (xa_cons (xe_tup (xa_cons xe_str (xa_cons xe_int (xa_cons xe_int xa_nil)))) xa_nil)) (xa_cons (xe_tup (xa_cons (xe_tup (xa_cons xe_str (xa_cons xe_non xa_nil))) xa_nil)) xa_nil))))))))))))
  · exact (xs_set 0 sc_law_kinds_right.nd (xe_op op_addA p_add (xe_name 0) (XF.xe (xf_lst (xa_cons (xe_tup (xa_cons (xe_tup (xa_cons xe_str (xa_cons (xe_un un_neg p_neg xe_int) xa_nil))) xa_nil)) (xa_cons (xe_tup (xa_cons (xe_tup xa_nil) xa_nil)) xa_nil))))))
  · exact (xs_set 0 sc_law_kinds_right.nd (xe_op op_addA p_add (xe_name 0) (XF.xe (xf_lst (xa_cons (xe_tup (xa_cons xe_non xa_nil)) (xa_cons (xe_tup (xa_cons (xe_tup (xa_cons xe_str (xa_cons xe_int xa_nil))) (xa_cons xe_non xa_nil))) (xa_cons (xe_tup (xa_cons (xe_tup (xa_cons xe_str (xa_cons xe_str xa_nil))) xa_nil)) (xa_cons (xe_tup (xa_cons (xe_tup (xa_cons xe_str (xa_cons xe_int xa_nil))) (xa_cons (xe_tup (xa_cons xe_str (xa_cons xe_int xa_nil))) (xa_cons (xe_tup (xa_cons xe_str (xa_cons xe_int xa_nil))) xa_nil)))) (xa_cons (xe_tup (xa_cons (xe_tup (xa_cons xe_str (xa_cons xe_int xa_nil))) xa_nil)) xa_nil)))))))))
  · exact (xs_set 0 sc_law_kinds_right.nd (xe_op op_addA p_add (xe_name 0) (XF.xe (xf_lst (xa_cons (xe_tup (xa_cons (xe_tup (xa_cons (xe_tup (xa_cons xe_str xa_nil)) (xa_cons xe_int xa_nil))) xa_nil)) xa_nil)))))
  · exact (xs_set 1 sc_law_kinds_right.nd (XF.xe (xf_lst (xa_cons (xe_tup xa_nil) (xa_cons (xe_tup (xa_cons (xe_tup (xa_cons xe_str (xa_cons xe_int xa_nil))) xa_nil)) (xa_cons (xe_tup (xa_cons (xe_tup (xa_cons xe_str (xa_cons xe_int xa_nil))) (xa_cons (xe_tup (xa_cons xe_str (xa_cons xe_int xa_nil))) (xa_cons (xe_tup (xa_cons xe_str (xa_cons xe_int xa_nil))) xa_nil)))) (xa_cons (xe_tup (xa_cons (xe_tup (xa_cons xe_str (xa_cons (xe_op op_pow p_pow xe_int xe_int) xa_nil))) xa_nil)) xa_nil)))))))
  · exact (xs_set 1 sc_law_kinds_right.nd (xe_op op_addA p_add (xe_name 1) (XF.xe (xf_lst (xa_cons (xe_op op_mulT p_mulT (xe_tup (xa_cons (xe_tup (xa_cons xe_str (xa_cons xe_int xa_nil))) (xa_cons (xe_tup (xa_cons xe_str (xa_cons xe_int xa_nil))) xa_nil))) xe_int) xa_nil)))))
  · exact (xs_set 2 sc_law_kinds_right.nd (xe_op op_addA p_add (xe_op op_addA p_add (XF.xe (xf_lc rfl sc_law_kinds_right.nd (xi_seq (xe_name 0)) (blkOk_by (own := [("_law_own", 3)]) (by kernel_rfl)) (fun _ _ _ _ _ => (xgo_name 3 sc_law_kinds_right.nd)) (fun _ _ _ _ _ => xts_nil) (fun _ _ _ _ _ => (xe_call (ok_is_runs tx) (hr.mono (by decide)) tx.g_is_runs tx.F_is_runs.kp (b_is_runs tx) takes0 runF_len (xa_cons (xe_name 3) xa_nil))))) (XF.xe (xf_lc rfl sc_law_kinds_right.nd (xi_seq (xe_name 1)) (blkOk_by (own := [("_law_own", 3)]) (by kernel_rfl)) (fun _ _ _ _ _ => (xgo_name 3 sc_law_kinds_right.nd)) (fun _ _ _ _ _ => xts_nil) (fun _ _ _ _ _ => (xe_call (ok_is_runs tx) (hr.mono (by decide)) tx.g_is_runs tx.F_is_runs.kp (b_is_runs tx) takes0 runF_len (xa_cons (xe_name 3) xa_nil)))))) (XF.xe (xf_lst (xa_cons (xe_callKw (ok_is_runs tx) (hr.mono (by decide)) tx.g_is_runs tx.F_is_runs.kp (kw_is_runs tx) tk runF_len (xk_cons (xe_tup (xa_cons (xe_tup (xa_cons xe_str (xa_cons xe_int xa_nil))) xa_nil)) xk_nil)) xa_nil)))))
  · exact (xs_ret (xe_call (ok_law_same tx 8) (hr.mono (by decide)) tx.g_law_same tx.F_law_same.kp (b_law_same tx) tk (f_law_same_len 8) (xa_cons (xe_name 2) (xa_cons (xe_op op_addA p_add (xe_op op_mulA p_mul (XF.xe (xf_lst (xa_cons xe_bl xa_nil))) xe_int) (xe_op op_mulA p_mul (XF.xe (xf_lst (xa_cons xe_bl xa_nil))) xe_int)) xa_nil))))
@[irreducible]
def f_law_kinds_right : List D → Res := f0_law_kinds_right
theorem f_law_kinds_right_eq : f_law_kinds_right = f0_law_kinds_right := by delta f_law_kinds_right; rfl
theorem ok_law_kinds_right (tx : Tx K mg T) : FnOk P w K mg base (L2.CX P w) 10 tx.a_law_kinds_right tx.d_law_kinds_right [] (spP K T 0 f_law_kinds_right) := by rw [f_law_kinds_right_eq]; exact ok0_law_kinds_right tx
theorem f_law_kinds_right_len (ds : List D) (h : f_law_kinds_right ds ≠ .bad) : ds.length = 0 := by rw [f_law_kinds_right_eq] at h; exact runF_len ds h
/-! #### Turns.__eq__ -/
theorem sc_T_eq : FnScope ["self", "other"] ["self", "other"] (defScope s_T_eq) := ⟨rfl, rfl, rfl, by decide +kernel, rfl, by decide +kernel, by decide +kernel⟩
theorem b_T_eq (tx : Tx K mg T) : Binds K tx.d_T_eq ["self", "other"] [] := tx.F_T_eq.binds fun _ _ _ _ _ _ us hl => match us, hl with | [_, _], _ => rfl
def m_T_eq : Rho → O := (retS (andE (op1E (isTx 20) (nameE 1)) (op2E eqD (op1E (slotD 20 1) (nameE 0)) (op1E (propD 20 f_T_runs) (nameE 1)))))
def f_T_eq : List D → Res := runF 2 2 m_T_eq
theorem ok_T_eq (tx : Tx K mg T) : FnOk P w K mg base (L2.CX P w) 3 tx.a_T_eq tx.d_T_eq ["self", "other"] (spP K T 2 f_T_eq) :=
    fn_pure tx.F_T_eq sc_T_eq (by decide) fun cdv A outer s H E hr tk hp =>
      (xb_one (xs_ret (xe_and (xe_isTx (t := 20) rfl tx.scT tx.siT tx.kiT tx.ktT tx.knT tx.z_isinstance tx.gT (xe_name 1)) (xe_one (xe_cmp (op_eqA hr.units) p_eq (xe_slot (t := 20) rfl tx.scT tx.sT1 (xe_name 0)) (xe_prop (t := 20) rfl tx.scT tx.pf_T_runs.at_ tx.pf_T_runs.get tx.pf_T_runs.tk tx.pf_T_runs.rc (ok_T_runs tx) (b_T_runs tx) (hr.mono (by decide)) (xe_name 1)))))))
/-! #### Turns.__add__ -/
theorem sc_T_add : FnScope ["self", "other"] ["self", "other"] (defScope s_T_add) := ⟨rfl, rfl, rfl, by decide +kernel, rfl, by decide +kernel, by decide +kernel⟩
theorem b_T_add (tx : Tx K mg T) : Binds K tx.d_T_add ["self", "other"] [] := tx.F_T_add.binds fun _ _ _ _ _ _ us hl => match us, hl with | [_, _], _ => rfl
def m_T_add : Rho → O := (retS (callE f_T_init (consA (op2E addD (op1E (slotD 20 1) (nameE 0)) (op1E (propD 20 f_T_runs) (nameE 1))) nilA)))
def f_T_add : List D → Res := runF 2 2 m_T_add
theorem ok_T_add (tx : Tx K mg T) : FnOk P w K mg base (L2.CX P w) 12 tx.a_T_add tx.d_T_add ["self", "other"] (spP K T 2 f_T_add) :=
    fn_pure tx.F_T_add sc_T_add (by decide) fun cdv A outer s H E hr tk hp =>
      (xb_one (xs_ret (xe_make (t := 20) tx.mT (ok_T_init tx) (hr.mono (by decide)) tx.gT (bT1 tx) tk initT_len initT_obj (xa_cons (xe_op op_addA p_add (xe_slot (t := 20) rfl tx.scT tx.sT1 (xe_name 0)) (xe_prop (t := 20) rfl tx.scT tx.pf_T_runs.at_ tx.pf_T_runs.get tx.pf_T_runs.tk tx.pf_T_runs.rc (ok_T_runs tx) (b_T_runs tx) (hr.mono (by decide)) (xe_name 1))) xa_nil))))
/-! #### _law_by_hand_right -/
theorem sc_law_by_hand_right : FnScope ["_law_far", "_law_some", "_law_got", "_law_due_here", "_law_odd", "_law_one_so", "_law_turned_so", "_law_like", "_law_thirty", "_law_own", "_law_k"] [] (defScope s_law_by_hand_right) := ⟨rfl, rfl, rfl, by decide +kernel, rfl, by decide +kernel, by decide +kernel⟩
theorem kw_law_by_hand_right (tx : Tx K mg T) : KwB K tx.d_law_by_hand_right [] := kwB_of tx.F_law_by_hand_right fun _ _ _ _ _ _ us hl => match us, hl with | [], _ => rfl
def m_law_by_hand_right_e1 : Rho → R VD := (callE f_law_kept (consA (nameE 9) nilA))
def m_law_by_hand_right_c1 : Rho → R (List D) := (compF [9] (seqI (nameE 1)) (nameG 9) yesT m_law_by_hand_right_e1)
def m_law_by_hand_right_e2 : Rho → R VD := (callE f_law_kept (consA (callE (f_law_lists 8) (consA (nameE 9) nilA)) nilA))
def m_law_by_hand_right_c2 : Rho → R (List D) := (compF [9] (seqI (nameE 1)) (nameG 9) yesT m_law_by_hand_right_e2)
def m_law_by_hand_right_e3 : Rho → R VD := (callE f_law_kept (consA (nameE 9) nilA))
def m_law_by_hand_right_c3 : Rho → R (List D) := (compF [9] (seqI (nameE 4)) (nameG 9) yesT m_law_by_hand_right_e3)
def m_law_by_hand_right_e4 : Rho → R VD := (frzE (lstF (consA (nameE 10) (consA (constE (.bl true)) (consA (constE (.bl true)) nilA)))))
def m_law_by_hand_right_c4 : Rho → R (List D) := (compF [10] (seqI (tupE (consA (constE (.int 0)) (consA (constE (.int 1)) (consA (constE (.int 1)) (consA (constE (.int 0)) (consA (constE (.int 2)) (consA (constE (.int 2)) (consA (constE (.int 0)) (consA (constE (.int 1)) nilA)))))))))) (nameG 10) yesT m_law_by_hand_right_e4)
def m_law_by_hand_right_e5 : Rho → R VD := (tupE (consA (op2E atD (constE (.str "ab")) (op2E modD (nameE 10) (constE (.int 2)))) (consA (op2E addD (nameE 10) (constE (.int 1))) nilA)))
def m_law_by_hand_right_c5 : Rho → R (List D) := (compF [10] (rngI1 (consA (constE (.int 30)) nilA)) (nameG 10) yesT m_law_by_hand_right_e5)
def m_law_by_hand_right : Rho → O := (seqS (asgS 0 (op2E powD (constE (.int 10)) (constE (.int 30))))
  (seqS (asgS 1 (frzE (lstF (consA (tupE (consA (tupE (consA (constE (.str "a")) (consA (constE (.int 1)) nilA))) (consA (tupE (consA (constE (.str "b")) (consA (constE (.int 1)) nilA))) (consA (tupE (consA (constE (.str "b")) (consA (constE (.int 1)) nilA))) (consA (tupE (consA (constE (.str "a")) (consA (constE (.int 2)) nilA))) nilA))))) (consA (tupE nilA) (consA (tupE (consA (tupE (consA (constE (.str "b")) (consA (constE (.int 1)) nilA))) (consA (tupE (consA (constE (.str "b")) (consA (constE (.int 2)) nilA))) nilA))) nilA))))))
  (seqS (asgS 1 (op2E addD (nameE 1) (frzE (lstF (consA (tupE (consA (tupE (consA (constE (.str "b")) (consA (op2E fdivD (nameE 0) (constE (.int 2))) nilA))) (consA (tupE (consA (constE (.str "a")) (consA (op2E fdivD (nameE 0) (constE (.int 2))) nilA))) nilA))) nilA)))))
  (seqS (asgS 2 (op2E addD (frzE m_law_by_hand_right_c1) (frzE m_law_by_hand_right_c2)))
  (seqS (asgM 3 (lstF (consA (frzE (lstF (consA (tupE (consA (tupE (consA (constE (.str "a")) (consA (constE (.int 1)) nilA))) (consA (tupE (consA (constE (.str "b")) (consA (constE (.int 2)) nilA))) (consA (tupE (consA (constE (.str "a")) (consA (constE (.int 2)) nilA))) nilA)))) (consA (constE (.int 5)) (consA (constE (.int 3)) (consA (constE (.int 2)) (consA (tupE (consA (constE (.int 1)) (consA (constE (.int 3)) (consA (constE (.int 5)) nilA)))) (consA (constE (.int 3)) nilA)))))))) (consA (frzE (lstF (consA (tupE nilA) (consA (constE (.int 0)) (consA (constE (.int 0)) (consA (constE (.int 0)) (consA (tupE nilA) (consA (constE (.int 0)) nilA)))))))) nilA))))
  (seqS (asgM 3 (op2F catF (nameE 3) (frzE (lstF (consA (frzE (lstF (consA (tupE (consA (tupE (consA (constE (.str "b")) (consA (constE (.int 3)) nilA))) nilA)) (consA (constE (.int 3)) (consA (constE (.int 0)) (consA (constE (.int 3)) (consA (tupE (consA (constE (.int 3)) nilA)) (consA (constE (.int 1)) nilA)))))))) nilA)))))
  (seqS (dropS (appE 3 (consA (frzE (lstF (consA (op2E atD (nameE 1) (constE (.int 3))) (consA (nameE 0) (consA (op2E fdivD (nameE 0) (constE (.int 2))) (consA (op2E fdivD (nameE 0) (constE (.int 2))) (consA (tupE (consA (op2E fdivD (nameE 0) (constE (.int 2))) (consA (nameE 0) nilA))) (consA (constE (.int 2)) nilA)))))))) nilA)))
  (seqS (asgS 4 (frzE (lstF (consA (tupE (consA (tupE (consA (constE (.str "a")) (consA (constE (.int 0)) nilA))) nilA)) (consA (tupE (consA (tupE (consA (constE (.str "a")) (consA (constE (.int 2)) nilA))) (consA (tupE (consA (constE (.str "b")) (consA (op1E negD (constE (.int 1))) nilA))) nilA))) (consA (tupE (consA (tupE (consA (constE (.str "a")) (consA (constE (.int 1)) nilA))) (consA (tupE (consA (constE (.str "c")) (consA (constE (.int 1)) nilA))) nilA))) (consA (tupE (consA (tupE (consA (constE (.str "")) (consA (constE (.int 3)) nilA))) nilA)) nilA)))))))
  (seqS (asgS 4 (op2E addD (nameE 4) (frzE (lstF (consA (tupE (consA (tupE (consA (constE (.str "b")) (consA (constE (.int 1)) nilA))) (consA (tupE (consA (constE (.str "a")) (consA (constE (.int 2)) nilA))) (consA (tupE (consA (constE (.str "ab")) (consA (constE (.int 1)) nilA))) (consA (tupE (consA (constE (.str "a")) (consA (constE (.int 0)) nilA))) nilA))))) nilA)))))
  (seqS (asgS 4 (op2E addD (nameE 4) (frzE (lstF (consA (frzE (lstF (consA (frzE (lstF (consA (constE (.str "a")) (consA (constE (.int 3)) nilA)))) (consA (frzE (lstF (consA (constE (.str "b")) (consA (constE (.int 1)) nilA)))) (consA (frzE (lstF (consA (constE (.str "A")) (consA (constE (.int 1)) nilA)))) nilA))))) (consA (tupE (consA (tupE (consA (constE (.str "b")) (consA (op1E negD (nameE 0)) nilA))) nilA)) (consA (tupE (consA (tupE (consA (constE (.str "a")) (consA (constE (.int 1)) nilA))) (consA (tupE (consA (constE (.str "x")) (consA (constE (.int 0)) nilA))) (consA (tupE (consA (constE (.str "a")) (consA (constE (.int 0)) nilA))) nilA)))) nilA)))))))
  (seqS (asgS 2 (op2E addD (nameE 2) (frzE m_law_by_hand_right_c3)))
  (seqS (asgM 3 (op2F catF (op2E mulD (nameE 3) (constE (.int 2))) (frzE m_law_by_hand_right_c4)))
  (seqS (parS [5, 6] (consMd (callE f_T_init (consA (op2E atD (nameE 1) (constE (.int 0))) nilA)) (consMd (callE f_T_init (consA (tupE (consA (tupE (consA (constE (.str "a")) (consA (constE (.int 2)) nilA))) (consA (tupE (consA (constE (.str "b")) (consA (constE (.int 2)) nilA))) (consA (tupE (consA (constE (.str "a")) (consA (constE (.int 1)) nilA))) nilA)))) nilA)) nilM)))
  (seqS (asgS 7 (callE f_T_init (consA (frzE (lstF (consA (frzE (lstF (consA (constE (.str "a")) (consA (constE (.int 1)) nilA)))) (consA (frzE (lstF (consA (constE (.str "b")) (consA (constE (.int 2)) nilA)))) (consA (frzE (lstF (consA (constE (.str "a")) (consA (constE (.int 1)) nilA)))) (consA (frzE (lstF (consA (constE (.str "a")) (consA (constE (.int 1)) nilA)))) nilA)))))) nilA)))
  (seqS (asgS 2 (op2E addD (nameE 2) (frzE (lstF (consA (op2E (eqTx 20 f_T_eq) (nameE 5) (nameE 7)) (consA (op2E (eqTx 20 f_T_eq) (nameE 5) (nameE 6)) (consA (op2E (eqTx 20 f_T_eq) (nameE 5) (op1E (propD 20 f_T_runs) (nameE 5))) (consA (op2E (neTD 20 f_T_eq) (nameE 5) (nameE 7)) nilA))))))))
  (seqS (asgS 2 (op2E addD (nameE 2) (frzE (lstF (consA (op2E (neTD 20 f_T_eq) (nameE 5) (nameE 6)) nilA)))))
  (seqS (asgS 2 (op2E addD (nameE 2) (frzE (lstF (consA (op2E (eqTx 20 f_T_eq) (nameE 5) (constE .non)) (consA (op1E (propD 20 f_T_runs) (op2E (addTD 20 f_T_add) (nameE 5) (nameE 6))) (consA (op2E (eqTx 20 f_T_eq) (callE f_backwards (consA (nameE 5) nilA)) (nameE 6)) nilA)))))))
  (seqS (asgS 2 (op2E addD (nameE 2) (frzE (lstF (consA (op1E (propD 20 f_T_runs) (callE f_swapped (consA (nameE 5) nilA))) nilA)))))
  (seqS (asgM 3 (op2F catF (nameE 3) (frzE (lstF (consA (constE (.bl true)) (consA (constE (.bl false)) (consA (constE (.bl false)) (consA (constE (.bl false)) (consA (constE (.bl true)) (consA (constE (.bl false)) nilA))))))))))
  (seqS (asgM 3 (op2F catF (nameE 3) (frzE (lstF (consA (tupE (consA (tupE (consA (constE (.str "a")) (consA (constE (.int 1)) nilA))) (consA (tupE (consA (constE (.str "b")) (consA (constE (.int 2)) nilA))) (consA (tupE (consA (constE (.str "a")) (consA (constE (.int 4)) nilA))) (consA (tupE (consA (constE (.str "b")) (consA (constE (.int 2)) nilA))) (consA (tupE (consA (constE (.str "a")) (consA (constE (.int 1)) nilA))) nilA)))))) (consA (constE (.bl true)) nilA))))))
  (seqS (dropS (appE 3 (consA (tupE (consA (tupE (consA (constE (.str "b")) (consA (constE (.int 1)) nilA))) (consA (tupE (consA (constE (.str "a")) (consA (constE (.int 2)) nilA))) (consA (tupE (consA (constE (.str "b")) (consA (constE (.int 2)) nilA))) nilA)))) nilA)))
  (seqS (asgS 8 (opNE tupleTD (consA (frzE m_law_by_hand_right_c5) nilA)))
  (seqS (asgS 2 (op2E addD (nameE 2) (frzE (lstF (consA (op2E eqD (op1E (propD 20 f_T_runs) (callE f_T_init (consA (nameE 8) nilA))) (nameE 8)) (consA (op1E (propD 20 f_T_hers) (callE f_T_init (consA (nameE 8) nilA))) (consA (op1E (propD 20 f_T_his) (callE f_T_init (consA (nameE 8) nilA))) nilA)))))))
  (seqS (asgS 2 (op2E addD (nameE 2) (frzE (lstF (consA (op1E (propD 20 f_T_runs) (op2E (addTD 20 f_T_add) (callE f_T_init (dfA (.tup []))) (callE f_T_init (dfA (.tup []))))) nilA)))))
  (seqS (asgS 2 (op2E addD (nameE 2) (frzE (lstF (consA (op1E (propD 20 f_T_runs) (callE f_backwards (consA (nameE 5) nilA))) (consA (op1E (propD 20 f_T_runs) (callE f_swapped (consA (callE f_T_init (dfA (.tup []))) nilA))) (consA (op1E (propD 20 f_T_runs) (nameE 5)) nilA)))))))
  (seqS (asgM 3 (op2F catF (nameE 3) (frzE (lstF (consA (constE (.bl true)) (consA (constE (.int 225)) (consA (constE (.int 240)) (consA (tupE nilA) (consA (tupE (consA (tupE (consA (constE (.str "a")) (consA (constE (.int 2)) nilA))) (consA (tupE (consA (constE (.str "b")) (consA (constE (.int 2)) nilA))) (consA (tupE (consA (constE (.str "a")) (consA (constE (.int 1)) nilA))) nilA)))) (consA (tupE nilA) (consA (tupE (consA (tupE (consA (constE (.str "a")) (consA (constE (.int 1)) nilA))) (consA (tupE (consA (constE (.str "b")) (consA (constE (.int 2)) nilA))) (consA (tupE (consA (constE (.str "a")) (consA (constE (.int 2)) nilA))) nilA)))) nilA)))))))))))
  (retS (andE (callE (f_law_same 8) (consA (nameE 2) (consA (nameE 3) nilA))) (callE f_law_kinds_right nilA)))))))))))))))))))))))))))))
def f0_law_by_hand_right : List D → Res := runF 0 11 m_law_by_hand_right
theorem ok0_law_by_hand_right (tx : Tx K mg T) : FnOk P w K mg base (L2.CX P w) 14 tx.a_law_by_hand_right tx.d_law_by_hand_right [] (spP K T 0 f0_law_by_hand_right) := by
  refine fn_pure tx.F_law_by_hand_right sc_law_by_hand_right (by decide) fun cdv A outer s H E hr tk hp => (xb_cons ?_ (xb_cons ?_ (xb_cons ?_ (xb_cons ?_ (xb_cons ?_ (xb_cons ?_ (xb_cons ?_ (xb_cons ?_ (xb_cons ?_ (xb_cons ?_ (xb_cons ?_ (xb_cons ?_ (xb_cons ?_ (xb_cons ?_ (xb_cons ?_ (xb_cons ?_ (xb_cons ?_ (xb_cons ?_ (xb_cons ?_ (xb_cons ?_ (xb_cons ?_ (xb_cons ?_ (xb_cons ?_ (xb_cons ?_ (xb_cons ?_ (xb_cons ?_ (xb_one ?_)))))))))))))))))))))))))))
  · exact (xs_set 0 sc_law_by_hand_right.nd (xe_op op_pow p_pow xe_int xe_int))
  · exact (xs_set 1 sc_law_by_hand_right.nd (XF.xe (xf_lst (xa_cons (xe_tup (xa_cons (xe_tup (xa_cons xe_str (xa_cons xe_int xa_nil))) (xa_cons (xe_tup (xa_cons xe_str (xa_cons xe_int xa_nil))) (xa_cons (xe_tup (xa_cons xe_str (xa_cons xe_int xa_nil))) (xa_cons (xe_tup (xa_cons xe_str (xa_cons xe_int xa_nil))) xa_nil))))) (xa_cons (xe_tup xa_nil) (xa_cons (xe_tup (xa_cons (xe_tup (xa_cons xe_str (xa_cons xe_int xa_nil))) (xa_cons (xe_tup (xa_cons xe_str (xa_cons xe_int xa_nil))) xa_nil))) xa_nil))))))
  · exact (xs_set 1 sc_law_by_hand_right.nd (xe_op op_addA p_add (xe_name 1) (XF.xe (xf_lst (xa_cons (xe_tup (xa_cons (xe_tup (xa_cons xe_str (xa_cons (xe_op op_fdiv p_fdiv (xe_name 0) xe_int) xa_nil))) (xa_cons (xe_tup (xa_cons xe_str (xa_cons (xe_op op_fdiv p_fdiv (xe_name 0) xe_int) xa_nil))) xa_nil))) xa_nil)))))
  · exact (xs_set 2 sc_law_by_hand_right.nd (xe_op op_addA p_add (XF.xe (xf_lc rfl sc_law_by_hand_right.nd (xi_seq (xe_name 1)) (blkOk_by (own := [("_law_own", 9)]) (by kernel_rfl)) (fun _ _ _ _ _ => (xgo_name 9 sc_law_by_hand_right.nd)) (fun _ _ _ _ _ => xts_nil) (fun _ _ _ _ _ => (xe_call (ok_law_kept tx) (hr.mono (by decide)) tx.g_law_kept tx.F_law_kept.kp (b_law_kept tx) takes0 runF_len (xa_cons (xe_name 9) xa_nil))))) (XF.xe (xf_lc rfl sc_law_by_hand_right.nd (xi_seq (xe_name 1)) (blkOk_by (own := [("_law_own", 9)]) (by kernel_rfl)) (fun _ _ _ _ _ => (xgo_name 9 sc_law_by_hand_right.nd)) (fun _ _ _ _ _ => xts_nil) (fun _ _ _ _ _ => (xe_call (ok_law_kept tx) (hr.mono (by decide)) tx.g_law_kept tx.F_law_kept.kp (b_law_kept tx) takes0 runF_len (xa_cons (xe_call (ok_law_lists tx 8) (hr.mono (by decide)) tx.g_law_lists tx.F_law_lists.kp (b_law_lists tx) takes0 (f_law_lists_len 8) (xa_cons (xe_name 9) xa_nil)) xa_nil)))))))
  · exact (xs_setM 3 sc_law_by_hand_right.nd (xf_lst (xa_cons (XF.xe (xf_lst (xa_cons (xe_tup (xa_cons (xe_tup (xa_cons xe_str (xa_cons xe_int xa_nil))) (xa_cons (xe_tup (xa_cons xe_str (xa_cons xe_int xa_nil))) (xa_cons (xe_tup (xa_cons xe_str (xa_cons xe_int xa_nil))) xa_nil)))) (xa_cons xe_int (xa_cons xe_int (xa_cons xe_int (xa_cons (xe_tup (xa_cons xe_int (xa_cons xe_int (xa_cons xe_int xa_nil)))) (xa_cons xe_int xa_nil)))))))) (xa_cons (XF.xe (xf_lst (xa_cons (xe_tup xa_nil) (xa_cons xe_int (xa_cons xe_int (xa_cons xe_int (xa_cons (xe_tup xa_nil) (xa_cons xe_int xa_nil)))))))) xa_nil))))
  · exact (xs_setM 3 sc_law_by_hand_right.nd (xf_op op_cat p_catF (xe_name 3) (XF.xe (xf_lst (xa_cons (XF.xe (xf_lst (xa_cons (xe_tup (xa_cons (xe_tup (xa_cons xe_str (xa_cons xe_int xa_nil))) xa_nil)) (xa_cons xe_int (xa_cons xe_int (xa_cons xe_int (xa_cons (xe_tup (xa_cons xe_int xa_nil)) (xa_cons xe_int xa_nil)))))))) xa_nil)))))
  · exact (xs_expr (xe_append 3 (xa_cons (XF.xe (xf_lst (xa_cons (xe_ix ix_seq p_ix (xe_name 1) xe_int) (xa_cons (xe_name 0) (xa_cons (xe_op op_fdiv p_fdiv (xe_name 0) xe_int) (xa_cons (xe_op op_fdiv p_fdiv (xe_name 0) xe_int) (xa_cons (xe_tup (xa_cons (xe_op op_fdiv p_fdiv (xe_name 0) xe_int) (xa_cons (xe_name 0) xa_nil))) (xa_cons xe_int xa_nil)))))))) xa_nil)))
  · exact (xs_set 4 sc_law_by_hand_right.nd (XF.xe (xf_lst (xa_cons (xe_tup (xa_cons (xe_tup (xa_cons xe_str (xa_cons xe_int xa_nil))) xa_nil)) (xa_cons (xe_tup (xa_cons (xe_tup (xa_cons xe_str (xa_cons xe_int xa_nil))) (xa_cons (xe_tup (xa_cons xe_str (xa_cons (xe_un un_neg p_neg xe_int) xa_nil))) xa_nil))) (xa_cons (xe_tup (xa_cons (xe_tup (xa_cons xe_str (xa_cons xe_int xa_nil))) (xa_cons (xe_tup (xa_cons xe_str (xa_cons xe_int xa_nil))) xa_nil))) (xa_cons (xe_tup (xa_cons (xe_tup (xa_cons xe_str (xa_cons xe_int xa_nil))) xa_nil)) xa_nil)))))))
  · exact (xs_set 4 sc_law_by_hand_right.nd (xe_op op_addA p_add (xe_name 4) (XF.xe (xf_lst (xa_cons (xe_tup (xa_cons (xe_tup (xa_cons xe_str (xa_cons xe_int xa_nil))) (xa_cons (xe_tup (xa_cons xe_str (xa_cons xe_int xa_nil))) (xa_cons (xe_tup (xa_cons xe_str (xa_cons xe_int xa_nil))) (xa_cons (xe_tup (xa_cons xe_str (xa_cons xe_int xa_nil))) xa_nil))))) xa_nil)))))
  · exact (xs_set 4 sc_law_by_hand_right.nd (xe_op op_addA p_add (xe_name 4) (XF.xe (xf_lst (xa_cons (XF.xe (xf_lst (xa_cons (XF.xe (xf_lst (xa_cons xe_str (xa_cons xe_int xa_nil)))) (xa_cons (XF.xe (xf_lst (xa_cons xe_str (xa_cons xe_int xa_nil)))) (xa_cons (XF.xe (xf_lst (xa_cons xe_str (xa_cons xe_int xa_nil)))) xa_nil))))) (xa_cons (xe_tup (xa_cons (xe_tup (xa_cons xe_str (xa_cons (xe_un un_neg p_neg (xe_name 0)) xa_nil))) xa_nil)) (xa_cons (xe_tup (xa_cons (xe_tup (xa_cons xe_str (xa_cons xe_int xa_nil))) (xa_cons (xe_tup (xa_cons xe_str (xa_cons xe_int xa_nil))) (xa_cons (xe_tup (xa_cons xe_str (xa_cons xe_int xa_nil))) xa_nil)))) xa_nil)))))))
  · exact (xs_set 2 sc_law_by_hand_right.nd (xe_op op_addA p_add (xe_name 2) (XF.xe (xf_lc rfl sc_law_by_hand_right.nd (xi_seq (xe_name 4)) (blkOk_by (own := [("_law_own", 9)]) (by kernel_rfl)) (fun _ _ _ _ _ => (xgo_name 9 sc_law_by_hand_right.nd)) (fun _ _ _ _ _ => xts_nil) (fun _ _ _ _ _ => (xe_call (ok_law_kept tx) (hr.mono (by decide)) tx.g_law_kept tx.F_law_kept.kp (b_law_kept tx) takes0 runF_len (xa_cons (xe_name 9) xa_nil)))))))
  · exact (xs_setM 3 sc_law_by_hand_right.nd (xf_op op_cat p_catF (xe_op op_mulA p_mul (xe_name 3) xe_int) (XF.xe (xf_lc rfl sc_law_by_hand_right.nd (xi_seq (xe_tup (xa_cons xe_int (xa_cons xe_int (xa_cons xe_int (xa_cons xe_int (xa_cons xe_int (xa_cons xe_int (xa_cons xe_int (xa_cons xe_int xa_nil)))))))))) (blkOk_by (own := [("_law_k", 10)]) (by kernel_rfl)) (fun _ _ _ _ _ => (xgo_name 10 sc_law_by_hand_right.nd)) (fun _ _ _ _ _ => xts_nil) (fun _ _ _ _ _ => (XF.xe (xf_lst (xa_cons (xe_name 10) (xa_cons xe_bl (xa_cons xe_bl xa_nil))))))))))
  · exact (by first | exact (xs_par2 5 6 rfl sc_law_by_hand_right.nd (xm_d (xe_make (t := 20) tx.mT (ok_T_init tx) (hr.mono (by decide)) tx.gT (bT1 tx) tk initT_len initT_obj (xa_cons (xe_ix ix_seq p_ix (xe_name 1) xe_int) xa_nil)) (xm_d (xe_make (t := 20) tx.mT (ok_T_init tx) (hr.mono (by decide)) tx.gT (bT1 tx) tk initT_len initT_obj (xa_cons (xe_tup (xa_cons (xe_tup (xa_cons xe_str (xa_cons xe_int xa_nil))) (xa_cons (xe_tup (xa_cons xe_str (xa_cons xe_int xa_nil))) (xa_cons (xe_tup (xa_cons xe_str (xa_cons xe_int xa_nil))) xa_nil)))) xa_nil)) xm_nil))) | exact (xs_parN (is := [5, 6]) rfl (by decide) rfl (by decide) (xm_d (xe_make (t := 20) tx.mT (ok_T_init tx) (hr.mono (by decide)) tx.gT (bT1 tx) tk initT_len initT_obj (xa_cons (xe_ix ix_seq p_ix (xe_name 1) xe_int) xa_nil)) (xm_d (xe_make (t := 20) tx.mT (ok_T_init tx) (hr.mono (by decide)) tx.gT (bT1 tx) tk initT_len initT_obj (xa_cons (xe_tup (xa_cons (xe_tup (xa_cons xe_str (xa_cons xe_int xa_nil))) (xa_cons (xe_tup (xa_cons xe_str (xa_cons xe_int xa_nil))) (xa_cons (xe_tup (xa_cons xe_str (xa_cons xe_int xa_nil))) xa_nil)))) xa_nil)) xm_nil)) (pgs_names (pgs_cons (pg_name (i := 5) sc_law_by_hand_right.nd rfl (by first | exact Or.inl rfl | exact Or.inr rfl)) (pgs_cons (pg_name (i := 6) sc_law_by_hand_right.nd rfl (by first | exact Or.inl rfl | exact Or.inr rfl)) pgs_nil)) (gn_cons (i := 5) (gn_cons (i := 6) gn_nil)))))
  · exact (xs_set 7 sc_law_by_hand_right.nd (xe_makeK (t := 20) tx.mT (ok_T_init tx) (hr.mono (by decide)) tx.gT (kI_T tx) tk initT_len initT_obj (xk_cons (XF.xe (xf_lst (xa_cons (XF.xe (xf_lst (xa_cons xe_str (xa_cons xe_int xa_nil)))) (xa_cons (XF.xe (xf_lst (xa_cons xe_str (xa_cons xe_int xa_nil)))) (xa_cons (XF.xe (xf_lst (xa_cons xe_str (xa_cons xe_int xa_nil)))) (xa_cons (XF.xe (xf_lst (xa_cons xe_str (xa_cons xe_int xa_nil)))) xa_nil)))))) xk_nil)))
  · exact (xs_set 2 sc_law_by_hand_right.nd (xe_op op_addA p_add (xe_name 2) (XF.xe (xf_lst (xa_cons (xe_cmp (op_eqTx (t := 20) tx.mf_T_eq (ok_T_eq tx) (b_T_eq tx) (hr.mono (by decide)) hr.units) (p_eqTx rfl tx.nfT tx.ntT tx.nnT) (xe_name 5) (xe_name 7)) (xa_cons (xe_cmp (op_eqTx (t := 20) tx.mf_T_eq (ok_T_eq tx) (b_T_eq tx) (hr.mono (by decide)) hr.units) (p_eqTx rfl tx.nfT tx.ntT tx.nnT) (xe_name 5) (xe_name 6)) (xa_cons (xe_cmp (op_eqTx (t := 20) tx.mf_T_eq (ok_T_eq tx) (b_T_eq tx) (hr.mono (by decide)) hr.units) (p_eqTx rfl tx.nfT tx.ntT tx.nnT) (xe_name 5) (xe_prop (t := 20) rfl tx.scT tx.pf_T_runs.at_ tx.pf_T_runs.get tx.pf_T_runs.tk tx.pf_T_runs.rc (ok_T_runs tx) (b_T_runs tx) (hr.mono (by decide)) (xe_name 5))) (xa_cons (xe_cmp (op_neT (t := 20) tx.neT tx.moT tx.mf_T_eq (ok_T_eq tx) (b_T_eq tx) (hr.mono (by decide)) hr.units) (p_neT rfl tx.nfT) (xe_name 5) (xe_name 7)) xa_nil))))))))
  · exact (xs_set 2 sc_law_by_hand_right.nd (xe_op op_addA p_add (xe_name 2) (XF.xe (xf_lst (xa_cons (xe_cmp (op_neT (t := 20) tx.neT tx.moT tx.mf_T_eq (ok_T_eq tx) (b_T_eq tx) (hr.mono (by decide)) hr.units) (p_neT rfl tx.nfT) (xe_name 5) (xe_name 6)) xa_nil)))))
  · exact (xs_set 2 sc_law_by_hand_right.nd (xe_op op_addA p_add (xe_name 2) (XF.xe (xf_lst (xa_cons (xe_cmp (op_eqTx (t := 20) tx.mf_T_eq (ok_T_eq tx) (b_T_eq tx) (hr.mono (by decide)) hr.units) (p_eqTx rfl tx.nfT tx.ntT tx.nnT) (xe_name 5) xe_non) (xa_cons (xe_prop (t := 20) rfl tx.scT tx.pf_T_runs.at_ tx.pf_T_runs.get tx.pf_T_runs.tk tx.pf_T_runs.rc (ok_T_runs tx) (b_T_runs tx) (hr.mono (by decide)) (xe_op (op_addT (t := 20) tx.mf_T_add tx.sfT (ok_T_add tx) (b_T_add tx) (hr.mono (by decide))) (p_addT rfl) (xe_name 5) (xe_name 6))) (xa_cons (xe_cmp (op_eqTx (t := 20) tx.mf_T_eq (ok_T_eq tx) (b_T_eq tx) (hr.mono (by decide)) hr.units) (p_eqTx rfl tx.nfT tx.ntT tx.nnT) (xe_call (ok_backwards tx) (hr.mono (by decide)) tx.g_backwards tx.F_backwards.kp (b_backwards tx) tk runF_len (xa_cons (xe_name 5) xa_nil)) (xe_name 6)) xa_nil)))))))
  · exact (xs_set 2 sc_law_by_hand_right.nd (xe_op op_addA p_add (xe_name 2) (XF.xe (xf_lst (xa_cons (xe_prop (t := 20) rfl tx.scT tx.pf_T_runs.at_ tx.pf_T_runs.get tx.pf_T_runs.tk tx.pf_T_runs.rc (ok_T_runs tx) (b_T_runs tx) (hr.mono (by decide)) (xe_call (ok_swapped tx) (hr.mono (by decide)) tx.g_swapped tx.F_swapped.kp (b_swapped tx) tk runF_len (xa_cons (xe_name 5) xa_nil))) xa_nil)))))
  · exact (xs_setM 3 sc_law_by_hand_right.nd (xf_op op_cat p_catF (xe_name 3) (XF.xe (xf_lst (xa_cons xe_bl (xa_cons xe_bl (xa_cons xe_bl (xa_cons xe_bl (xa_cons xe_bl (xa_cons xe_bl xa_nil))))))))))
  · exact (xs_setM 3 sc_law_by_hand_right.nd (xf_op op_cat p_catF (xe_name 3) (XF.xe (xf_lst (xa_cons (xe_tup (xa_cons (xe_tup (xa_cons xe_str (xa_cons xe_int xa_nil))) (xa_cons (xe_tup (xa_cons xe_str (xa_cons xe_int xa_nil))) (xa_cons (xe_tup (xa_cons xe_str (xa_cons xe_int xa_nil))) (xa_cons (xe_tup (xa_cons xe_str (xa_cons xe_int xa_nil))) (xa_cons (xe_tup (xa_cons xe_str (xa_cons xe_int xa_nil))) xa_nil)))))) (xa_cons xe_bl xa_nil))))))
  · exact (xs_expr (xe_append 3 (xa_cons (xe_tup (xa_cons (xe_tup (xa_cons xe_str (xa_cons xe_int xa_nil))) (xa_cons (xe_tup (xa_cons xe_str (xa_cons xe_int xa_nil))) (xa_cons (xe_tup (xa_cons xe_str (xa_cons xe_int xa_nil))) xa_nil)))) xa_nil)))
  · exact (xs_set 8 sc_law_by_hand_right.nd (xe_callTy (call_tupleA rfl) p_tupleT tx.z_tuple (by decide +kernel) (xa_cons (XF.xe (xf_lc rfl sc_law_by_hand_right.nd (xi_range1 tx.z_range (xa_cons xe_int xa_nil)) (blkOk_by (own := [("_law_k", 10)]) (by kernel_rfl)) (fun _ _ _ _ _ => (xgo_name 10 sc_law_by_hand_right.nd)) (fun _ _ _ _ _ => xts_nil) (fun _ _ _ _ _ => (xe_tup (xa_cons (xe_ix ix_seq p_ix xe_str (xe_op op_mod p_mod (xe_name 10) xe_int)) (xa_cons (xe_op op_addA p_add (xe_name 10) xe_int) xa_nil)))))) xa_nil)))
  · exact (xs_set 2 sc_law_by_hand_right.nd (xe_op op_addA p_add (xe_name 2) (XF.xe (xf_lst (xa_cons (xe_cmp (op_eqA hr.units) p_eq (xe_prop (t := 20) rfl tx.scT tx.pf_T_runs.at_ tx.pf_T_runs.get tx.pf_T_runs.tk tx.pf_T_runs.rc (ok_T_runs tx) (b_T_runs tx) (hr.mono (by decide)) (xe_make (t := 20) tx.mT (ok_T_init tx) (hr.mono (by decide)) tx.gT (bT1 tx) tk initT_len initT_obj (xa_cons (xe_name 8) xa_nil))) (xe_name 8)) (xa_cons (xe_prop (t := 20) rfl tx.scT tx.pf_T_hers.at_ tx.pf_T_hers.get tx.pf_T_hers.tk tx.pf_T_hers.rc (ok_T_hers tx) (b_T_hers tx) (hr.mono (by decide)) (xe_make (t := 20) tx.mT (ok_T_init tx) (hr.mono (by decide)) tx.gT (bT1 tx) tk initT_len initT_obj (xa_cons (xe_name 8) xa_nil))) (xa_cons (xe_prop (t := 20) rfl tx.scT tx.pf_T_his.at_ tx.pf_T_his.get tx.pf_T_his.tk tx.pf_T_his.rc (ok_T_his tx) (b_T_his tx) (hr.mono (by decide)) (xe_make (t := 20) tx.mT (ok_T_init tx) (hr.mono (by decide)) tx.gT (bT1 tx) tk initT_len initT_obj (xa_cons (xe_name 8) xa_nil))) xa_nil)))))))
  · exact (xs_set 2 sc_law_by_hand_right.nd (xe_op op_addA p_add (xe_name 2) (XF.xe (xf_lst (xa_cons (xe_prop (t := 20) rfl tx.scT tx.pf_T_runs.at_ tx.pf_T_runs.get tx.pf_T_runs.tk tx.pf_T_runs.rc (ok_T_runs tx) (b_T_runs tx) (hr.mono (by decide)) (xe_op (op_addT (t := 20) tx.mf_T_add tx.sfT (ok_T_add tx) (b_T_add tx) (hr.mono (by decide))) (p_addT rfl) (xe_make0 (t := 20) tx.mT (ok_T_init tx) (hr.mono (by decide)) tx.gT (bT0 tx) tx.FT.df tk initT_len initT_obj) (xe_make0 (t := 20) tx.mT (ok_T_init tx) (hr.mono (by decide)) tx.gT (bT0 tx) tx.FT.df tk initT_len initT_obj))) xa_nil)))))
  · exact (xs_set 2 sc_law_by_hand_right.nd (xe_op op_addA p_add (xe_name 2) (XF.xe (xf_lst (xa_cons (xe_prop (t := 20) rfl tx.scT tx.pf_T_runs.at_ tx.pf_T_runs.get tx.pf_T_runs.tk tx.pf_T_runs.rc (ok_T_runs tx) (b_T_runs tx) (hr.mono (by decide)) (xe_callKw (ok_backwards tx) (hr.mono (by decide)) tx.g_backwards tx.F_backwards.kp (kw_backwards tx) tk runF_len (xk_cons (xe_name 5) xk_nil))) (xa_cons (xe_prop (t := 20) rfl tx.scT tx.pf_T_runs.at_ tx.pf_T_runs.get tx.pf_T_runs.tk tx.pf_T_runs.rc (ok_T_runs tx) (b_T_runs tx) (hr.mono (by decide)) (xe_callKw (ok_swapped tx) (hr.mono (by decide)) tx.g_swapped tx.F_swapped.kp (kw_swapped tx) tk runF_len (xk_cons (xe_make0 (t := 20) tx.mT (ok_T_init tx) (hr.mono (by decide)) tx.gT (bT0 tx) tx.FT.df tk initT_len initT_obj) xk_nil))) (xa_cons (xe_prop (t := 20) rfl tx.scT tx.pf_T_runs.at_ tx.pf_T_runs.get tx.pf_T_runs.tk tx.pf_T_runs.rc (ok_T_runs tx) (b_T_runs tx) (hr.mono (by decide)) (xe_name 5)) xa_nil)))))))
  · exact (xs_setM 3 sc_law_by_hand_right.nd (xf_op op_cat p_catF (xe_name 3) (XF.xe (xf_lst (xa_cons xe_bl (xa_cons xe_int (xa_cons xe_int (xa_cons (xe_tup xa_nil) (xa_cons (xe_tup (xa_cons (xe_tup (xa_cons xe_str (xa_cons xe_int xa_nil))) (xa_cons (xe_tup (xa_cons xe_str (xa_cons xe_int xa_nil))) (xa_cons (xe_tup (xa_cons xe_str (xa_cons xe_int xa_nil))) xa_nil)))) (xa_cons (xe_tup xa_nil) (xa_cons (xe_tup (xa_cons (xe_tup (xa_cons xe_str (xa_cons xe_int xa_nil))) (xa_cons (xe_tup (xa_cons xe_str (xa_cons xe_int xa_nil))) (xa_cons (xe_tup (xa_cons xe_str (xa_cons xe_int xa_nil))) xa_nil)))) xa_nil)))))))))))
  · exact (xs_ret (xe_and (xe_call (ok_law_same tx 8) (hr.mono (by decide)) tx.g_law_same tx.F_law_same.kp (b_law_same tx) tk (f_law_same_len 8) (xa_cons (xe_name 2) (xa_cons (xe_name 3) xa_nil))) (xe_one (xe_call0 (ok_law_kinds_right tx) (hr.mono (by decide)) tx.g_law_kinds_right tx.F_law_kinds_right.kp (kw_law_kinds_right tx) tk f_law_kinds_right_len))))
@[irreducible]
def f_law_by_hand_right : List D → Res := f0_law_by_hand_right
theorem f_law_by_hand_right_eq : f_law_by_hand_right = f0_law_by_hand_right := by delta f_law_by_hand_right; rfl
theorem ok_law_by_hand_right (tx : Tx K mg T) : FnOk P w K mg base (L2.CX P w) 14 tx.a_law_by_hand_right tx.d_law_by_hand_right [] (spP K T 0 f_law_by_hand_right) := by rw [f_law_by_hand_right_eq]; exact ok0_law_by_hand_right tx
theorem f_law_by_hand_right_len (ds : List D) (h : f_law_by_hand_right ds ≠ .bad) : ds.length = 0 := by rw [f_law_by_hand_right_eq] at h; exact runF_len ds h
/-! #### _law_case_right -/
theorem sc_law_case_right : FnScope ["_law_box_here", "_law_bits_so", "_law_its_so", "_law_due_here", "_law_soft", "_law_one_so", "_law_again", "_law_other_so", "_law_own", "_law_turned_so", "_law_got", "_law_mine", "_law_its", "_law_whole_so", "_law_k", "_law_strange", "_law_odd"] ["_law_box_here", "_law_bits_so", "_law_its_so"] (defScope s_law_case_right) := ⟨rfl, rfl, rfl, by decide +kernel, rfl, by decide +kernel, by decide +kernel⟩
theorem b_law_case_right (tx : Tx K mg T) : Binds K tx.d_law_case_right ["_law_box_here", "_law_bits_so", "_law_its_so"] [] := tx.F_law_case_right.binds fun _ _ _ _ _ _ us hl => match us, hl with | [_, _, _], _ => rfl
def m_law_case_right_e1 : Rho → R VD := (tupE (consA (ifE (valT (op2E eqD (op2E atD (nameE 8) (constE (.int 0))) (constE (.str "a")))) (constE (.str "b")) (constE (.str "a"))) (consA (op2E atD (nameE 8) (constE (.int 1))) nilA)))
def m_law_case_right_c1 : Rho → R (List D) := (compF [8] (seqI (nameE 1)) (nameG 8) yesT m_law_case_right_e1)
def m_law_case_right : Rho → O := (seqS (nestS 3 4 5 6 7 8 (callE f_law_due (consA (nameE 1) nilA)) (callE (f_law_lists 8) (consA (nameE 1) nilA)) (consA (callE f_T_init (consA (nameE 1) nilA)) (consA (callE f_T_init (consA (nameE 4) nilA)) (consA (callE f_T_init (consA (nameE 2) nilA)) nilA))))
  (seqS (asgS 9 (opNE tupleTD (consA (frzE m_law_case_right_c1) nilA)))
  (seqS (asgS 10 (frzE (lstF (consA (callE f_law_shown (consA (nameE 5) nilA)) (consA (callE f_law_shown (consA (nameE 6) nilA)) (consA (op2E (eqTx 20 f_T_eq) (nameE 5) (nameE 6)) (consA (op2E (neTD 20 f_T_eq) (nameE 5) (nameE 6)) (consA (callE f_is_runs (consA (op1E (propD 20 f_T_runs) (nameE 5)) nilA)) nilA))))))))
  (seqS (asgS 10 (op2E addD (nameE 10) (frzE (lstF (consA (callE f_law_shown (consA (op2E (addTD 20 f_T_add) (nameE 5) (nameE 7)) nilA)) (consA (op2E (eqTx 20 f_T_eq) (nameE 5) (nameE 7)) (consA (callE f_law_shown (consA (callE f_swapped (consA (nameE 5) nilA)) nilA)) nilA)))))))
  (seqS (parS [11, 12] (consMd (op2E atD (nameE 3) (constE (.int 0))) (consMd (callE f_law_joined (consA (nameE 2) nilA)) nilM)))
  (seqS (asgS 13 (frzE (lstF (consA (nameE 3) (consA (nameE 3) (consA (constE (.bl true)) (consA (constE (.bl false)) (consA (constE (.bl true)) (consA (callE f_law_due (consA (op2E addD (nameE 1) (nameE 2)) nilA)) (consA (op2E eqD (nameE 11) (nameE 12)) (consA (callE f_law_due (consA (nameE 9) nilA)) nilA)))))))))))
  (seqS (ifS (notT (valT (callE (f_law_same 8) (consA (nameE 10) (consA (nameE 13) nilA))))) (retS (constE (.bl false))) nextS)
  (seqS (asgS 10 (frzE (lstF (consA (op1E (propD 20 f_T_runs) (callE f_backwards (consA (nameE 5) nilA))) (consA (op2E (eqTx 20 f_T_eq) (callE f_swapped (consA (callE f_swapped (consA (nameE 5) nilA)) nilA)) (nameE 5)) (consA (op1E (propD 20 f_T_runs) (nameE 5)) (consA (op1E (propD 20 f_T_runs) (nameE 7)) nilA)))))))
  (seqS (ifS (notT (valT (callE (f_law_same 8) (consA (nameE 10) (consA (frzE (lstF (consA (op1E revD (nameE 11)) (consA (constE (.bl true)) (consA (nameE 11) (consA (nameE 12) nilA)))))) nilA))))) (retS (constE (.bl false))) nextS)
  (seqS (asgS 14 (callBE f_law_take (consA (nameE 0) (consA (op2E addD (opNE lenD (consA (nameE 1) nilA)) (constE (.int 1))) nilA))))
  (seqS (asgS 15 (callBE f_law_of (consA (nameE 0) (consA (frzE (lstF (consA (tupE (consA (constE (.str "a")) (consA (constE (.int 0)) nilA))) (consA (tupE (consA (constE (.str "b")) (consA (op1E negD (constE (.int 1))) nilA))) (consA (tupE (consA (constE (.str "c")) (consA (constE (.int 1)) nilA))) (consA (tupE (consA (constE (.str "aa")) (consA (constE (.int 2)) nilA))) (consA (tupE (consA (constE (.str "B")) (consA (constE (.int 3)) nilA))) (consA (tupE (consA (constE (.str "")) (consA (constE (.int 1)) nilA))) nilA)))))))) nilA))))
  (seqS (asgS 16 (op2E addD (op2E addD (op2E addD (slE (nameE 1) noPart (aPart (nameE 14))) (tupE (consA (nameE 15) nilA))) (slE (nameE 1) (aPart (nameE 14)) noPart)) (tupE (consA (tupE (consA (constE (.str "a")) (consA (constE (.int 0)) nilA))) nilA))))
  (retS (callE (f_law_same 8) (consA (frzE (lstF (consA (callE f_law_kept (consA (nameE 16) nilA)) (consA (callE f_law_kept (consA (callE (f_law_lists 8) (consA (nameE 16) nilA)) nilA)) nilA)))) (consA (op2E mulD (frzE (lstF (consA (frzE (lstF (consA (nameE 14) (consA (constE (.bl true)) (consA (constE (.bl true)) nilA))))) nilA))) (constE (.int 2))) nilA))))))))))))))))
def f_law_case_right : List Int → List D → Option (D × List Int) := runB 2 16 m_law_case_right
theorem ok_law_case_right (tx : Tx K mg T) : FnOk P w K mg base (L2.CX P w) 14 tx.a_law_case_right tx.d_law_case_right ["_law_box_here", "_law_bits_so", "_law_its_so"] (spB K T 2 f_law_case_right) :=
    fn_box tx.F_law_case_right sc_law_case_right (by decide) rfl rfl fun cdv A outer s H E hr hp =>
      (xb_nest (i0 := 3) (i1 := 4) (j0 := 5) (j1 := 6) (j2 := 7) (io := 8) hp rfl sc_law_case_right.nd (xe_call (ok_law_due tx) (hr.mono (by decide)) tx.g_law_due tx.F_law_due.kp (b_law_due tx) takes0 runF_len (xa_cons (xe_name 1) xa_nil))
      (xe_call (ok_law_lists tx 8) (hr.mono (by decide)) tx.g_law_lists tx.F_law_lists.kp (b_law_lists tx) takes0 (f_law_lists_len 8) (xa_cons (xe_name 1) xa_nil))
      (xa_cons (xe_make (t := 20) tx.mT (ok_T_init tx) (hr.mono (by decide)) tx.gT (bT1 tx) takes0 initT_len initT_obj (xa_cons (xe_name 1) xa_nil)) (xa_cons (xe_makeK (t := 20) tx.mT (ok_T_init tx) (hr.mono (by decide)) tx.gT (kI_T tx) takes0 initT_len initT_obj (xk_cons (xe_name 4) xk_nil)) (xa_cons (xe_make (t := 20) tx.mT (ok_T_init tx) (hr.mono (by decide)) tx.gT (bT1 tx) takes0 initT_len initT_obj (xa_cons (xe_name 2) xa_nil)) xa_nil)))
      (by refine (xb_cons ?_ (xb_cons ?_ (xb_cons ?_ (xb_cons ?_ (xb_cons ?_ (xb_cons ?_ (xb_cons ?_ (xb_cons ?_ (xb_cons ?_ (xb_cons ?_ (xb_cons ?_ (xb_one ?_)))))))))))); exact (xs_set 9 sc_law_case_right.nd (xe_callTy (call_tupleA rfl) p_tupleT tx.z_tuple (by decide +kernel) (xa_cons (XF.xe (xf_lc rfl sc_law_case_right.nd (xi_seq (xe_name 1)) (blkOk_by (own := [("_law_own", 8)]) (by kernel_rfl)) (fun _ _ _ _ _ => (xgo_name 8 sc_law_case_right.nd)) (fun _ _ _ _ _ => xts_nil) (fun _ _ _ _ _ => (xe_tup (xa_cons (xe_if (xt_cmp (op_eqA hr.units) p_eq (xe_ix ix_seq p_ix (xe_name 8) xe_int) xe_str) xe_str xe_str) (xa_cons (xe_ix ix_seq p_ix (xe_name 8) xe_int) xa_nil)))))) xa_nil))); exact (xs_set 10 sc_law_case_right.nd (XF.xe (xf_lst (xa_cons (xe_call (ok_law_shown tx) (hr.mono (by decide)) tx.g_law_shown tx.F_law_shown.kp (b_law_shown tx) takes0 runF_len (xa_cons (xe_name 5) xa_nil)) (xa_cons (xe_call (ok_law_shown tx) (hr.mono (by decide)) tx.g_law_shown tx.F_law_shown.kp (b_law_shown tx) takes0 runF_len (xa_cons (xe_name 6) xa_nil)) (xa_cons (xe_cmp (op_eqTx (t := 20) tx.mf_T_eq (ok_T_eq tx) (b_T_eq tx) (hr.mono (by decide)) hr.units) (p_eqTx rfl tx.nfT tx.ntT tx.nnT) (xe_name 5) (xe_name 6)) (xa_cons (xe_cmp (op_neT (t := 20) tx.neT tx.moT tx.mf_T_eq (ok_T_eq tx) (b_T_eq tx) (hr.mono (by decide)) hr.units) (p_neT rfl tx.nfT) (xe_name 5) (xe_name 6)) (xa_cons (xe_call (ok_is_runs tx) (hr.mono (by decide)) tx.g_is_runs tx.F_is_runs.kp (b_is_runs tx) takes0 runF_len (xa_cons (xe_prop (t := 20) rfl tx.scT tx.pf_T_runs.at_ tx.pf_T_runs.get tx.pf_T_runs.tk tx.pf_T_runs.rc (ok_T_runs tx) (b_T_runs tx) (hr.mono (by decide)) (xe_name 5)) xa_nil)) xa_nil)))))))); exact (xs_set 10 sc_law_case_right.nd (xe_op op_addA p_add (xe_name 10) (XF.xe (xf_lst (xa_cons (xe_call (ok_law_shown tx) (hr.mono (by decide)) tx.g_law_shown tx.F_law_shown.kp (b_law_shown tx) takes0 runF_len (xa_cons (xe_op (op_addT (t := 20) tx.mf_T_add tx.sfT (ok_T_add tx) (b_T_add tx) (hr.mono (by decide))) (p_addT rfl) (xe_name 5) (xe_name 7)) xa_nil)) (xa_cons (xe_cmp (op_eqTx (t := 20) tx.mf_T_eq (ok_T_eq tx) (b_T_eq tx) (hr.mono (by decide)) hr.units) (p_eqTx rfl tx.nfT tx.ntT tx.nnT) (xe_name 5) (xe_name 7)) (xa_cons (xe_call (ok_law_shown tx) (hr.mono (by decide)) tx.g_law_shown tx.F_law_shown.kp (b_law_shown tx) takes0 runF_len (xa_cons (xe_call (ok_swapped tx) (hr.mono (by decide)) tx.g_swapped tx.F_swapped.kp (b_swapped tx) takes0 runF_len (xa_cons (xe_name 5) xa_nil)) xa_nil)) xa_nil))))))); exact (by first | exact (xs_par2 11 12 rfl sc_law_case_right.nd (xm_d (xe_ix ix_seq p_ix (xe_name 3) xe_int) (xm_d (xe_call (ok_law_joined tx) (hr.mono (by decide)) tx.g_law_joined tx.F_law_joined.kp (b_law_joined tx) takes0 runF_len (xa_cons (xe_name 2) xa_nil)) xm_nil))) | exact (xs_parN (is := [11, 12]) rfl (by decide) rfl (by decide) (xm_d (xe_ix ix_seq p_ix (xe_name 3) xe_int) (xm_d (xe_call (ok_law_joined tx) (hr.mono (by decide)) tx.g_law_joined tx.F_law_joined.kp (b_law_joined tx) takes0 runF_len (xa_cons (xe_name 2) xa_nil)) xm_nil)) (pgs_names (pgs_cons (pg_name (i := 11) sc_law_case_right.nd rfl (by first | exact Or.inl rfl | exact Or.inr rfl)) (pgs_cons (pg_name (i := 12) sc_law_case_right.nd rfl (by first | exact Or.inl rfl | exact Or.inr rfl)) pgs_nil)) (gn_cons (i := 11) (gn_cons (i := 12) gn_nil))))); exact (xs_set 13 sc_law_case_right.nd (XF.xe (xf_lst (xa_cons (xe_name 3) (xa_cons (xe_name 3) (xa_cons xe_bl (xa_cons xe_bl (xa_cons xe_bl (xa_cons (xe_call (ok_law_due tx) (hr.mono (by decide)) tx.g_law_due tx.F_law_due.kp (b_law_due tx) takes0 runF_len (xa_cons (xe_op op_addA p_add (xe_name 1) (xe_name 2)) xa_nil)) (xa_cons (xe_cmp (op_eqA hr.units) p_eq (xe_name 11) (xe_name 12)) (xa_cons (xe_call (ok_law_due tx) (hr.mono (by decide)) tx.g_law_due tx.F_law_due.kp (b_law_due tx) takes0 runF_len (xa_cons (xe_name 9) xa_nil)) xa_nil))))))))))); exact (xs_if (xt_not (xt_val (xe_call (ok_law_same tx 8) (hr.mono (by decide)) tx.g_law_same tx.F_law_same.kp (b_law_same tx) takes0 (f_law_same_len 8) (xa_cons (xe_name 10) (xa_cons (xe_name 13) xa_nil))))) (xb_one (xs_ret xe_bl)) xb_nil); exact (xs_set 10 sc_law_case_right.nd (XF.xe (xf_lst (xa_cons (xe_prop (t := 20) rfl tx.scT tx.pf_T_runs.at_ tx.pf_T_runs.get tx.pf_T_runs.tk tx.pf_T_runs.rc (ok_T_runs tx) (b_T_runs tx) (hr.mono (by decide)) (xe_call (ok_backwards tx) (hr.mono (by decide)) tx.g_backwards tx.F_backwards.kp (b_backwards tx) takes0 runF_len (xa_cons (xe_name 5) xa_nil))) (xa_cons (xe_cmp (op_eqTx (t := 20) tx.mf_T_eq (ok_T_eq tx) (b_T_eq tx) (hr.mono (by decide)) hr.units) (p_eqTx rfl tx.nfT tx.ntT tx.nnT) (xe_call (ok_swapped tx) (hr.mono (by decide)) tx.g_swapped tx.F_swapped.kp (b_swapped tx) takes0 runF_len (xa_cons (xe_call (ok_swapped tx) (hr.mono (by decide)) tx.g_swapped tx.F_swapped.kp (b_swapped tx) takes0 runF_len (xa_cons (xe_name 5) xa_nil)) xa_nil)) (xe_name 5)) (xa_cons (xe_prop (t := 20) rfl tx.scT tx.pf_T_runs.at_ tx.pf_T_runs.get tx.pf_T_runs.tk tx.pf_T_runs.rc (ok_T_runs tx) (b_T_runs tx) (hr.mono (by decide)) (xe_name 5)) (xa_cons (xe_prop (t := 20) rfl tx.scT tx.pf_T_runs.at_ tx.pf_T_runs.get tx.pf_T_runs.tk tx.pf_T_runs.rc (ok_T_runs tx) (b_T_runs tx) (hr.mono (by decide)) (xe_name 7)) xa_nil))))))); exact (xs_if (xt_not (xt_val (xe_call (ok_law_same tx 8) (hr.mono (by decide)) tx.g_law_same tx.F_law_same.kp (b_law_same tx) takes0 (f_law_same_len 8) (xa_cons (xe_name 10) (xa_cons (XF.xe (xf_lst (xa_cons (xe_back (xe_name 11)) (xa_cons xe_bl (xa_cons (xe_name 11) (xa_cons (xe_name 12) xa_nil)))))) xa_nil))))) (xb_one (xs_ret xe_bl)) xb_nil); exact (xs_set 14 sc_law_case_right.nd (xe_callBx (ok_law_take tx) (hr.mono (by decide)) tx.g_law_take tx.F_law_take.kp (b_law_take tx) takes0 runB_len (xa_cons (xe_name 0) (xa_cons (xe_op op_addA p_add (xe_callB call_len p_len tx.z_len (by decide +kernel) (xa_cons (xe_name 1) xa_nil)) xe_int) xa_nil)))); exact (xs_set 15 sc_law_case_right.nd (xe_callBx (ok_law_of tx) (hr.mono (by decide)) tx.g_law_of tx.F_law_of.kp (b_law_of tx) takes0 runB_len (xa_cons (xe_name 0) (xa_cons (XF.xe (xf_lst (xa_cons (xe_tup (xa_cons xe_str (xa_cons xe_int xa_nil))) (xa_cons (xe_tup (xa_cons xe_str (xa_cons (xe_un un_neg p_neg xe_int) xa_nil))) (xa_cons (xe_tup (xa_cons xe_str (xa_cons xe_int xa_nil))) (xa_cons (xe_tup (xa_cons xe_str (xa_cons xe_int xa_nil))) (xa_cons (xe_tup (xa_cons xe_str (xa_cons xe_int xa_nil))) (xa_cons (xe_tup (xa_cons xe_str (xa_cons xe_int xa_nil))) xa_nil)))))))) xa_nil)))); exact (xs_set 16 sc_law_case_right.nd (xe_op op_addA p_add (xe_op op_addA p_add (xe_op op_addA p_add (xe_sl (xe_name 1) xo_none (xo_some (xe_name 14))) (xe_tup (xa_cons (xe_name 15) xa_nil))) (xe_sl (xe_name 1) (xo_some (xe_name 14)) xo_none)) (xe_tup (xa_cons (xe_tup (xa_cons xe_str (xa_cons xe_int xa_nil))) xa_nil)))); exact (xs_ret (xe_call (ok_law_same tx 8) (hr.mono (by decide)) tx.g_law_same tx.F_law_same.kp (b_law_same tx) takes0 (f_law_same_len 8) (xa_cons (XF.xe (xf_lst (xa_cons (xe_call (ok_law_kept tx) (hr.mono (by decide)) tx.g_law_kept tx.F_law_kept.kp (b_law_kept tx) takes0 runF_len (xa_cons (xe_name 16) xa_nil)) (xa_cons (xe_call (ok_law_kept tx) (hr.mono (by decide)) tx.g_law_kept tx.F_law_kept.kp (b_law_kept tx) takes0 runF_len (xa_cons (xe_call (ok_law_lists tx 8) (hr.mono (by decide)) tx.g_law_lists tx.F_law_lists.kp (b_law_lists tx) takes0 (f_law_lists_len 8) (xa_cons (xe_name 16) xa_nil)) xa_nil)) xa_nil)))) (xa_cons (xe_op op_mulA p_mul (XF.xe (xf_lst (xa_cons (XF.xe (xf_lst (xa_cons (xe_name 14) (xa_cons xe_bl (xa_cons xe_bl xa_nil))))) xa_nil))) xe_int) xa_nil))))))
/-! #### _law_right -/
theorem sc_law_right : FnScope ["_law_box_here", "_law_turn", "_law_high_so"] ["_law_box_here"] (defScope s_law_right) := ⟨rfl, rfl, rfl, by decide +kernel, rfl, by decide +kernel, by decide +kernel⟩
theorem b_law_right (tx : Tx K mg T) : Binds K tx.d_law_right ["_law_box_here"] [] := tx.F_law_right.binds fun _ _ _ _ _ _ us hl => match us, hl with | [_], _ => rfl
def m_law_right_b1 : Rho → O := (seqS (asgS 2 (callBE f_law_of (consA (nameE 0) (consA (frzE (lstF (consA (constE (.int 2)) (consA (constE (.int 9)) (consA (op2E powD (constE (.int 10)) (constE (.int 28))) nilA))))) nilA))))
  (ifS (notT (valT (callBE f_law_case_right (consA (nameE 0) (consA (callBE f_law_bits (consA (nameE 0) (consA (constE (.int 12)) (consA (nameE 2) nilA)))) (consA (callBE f_law_bits (consA (nameE 0) (consA (constE (.int 12)) (consA (nameE 2) nilA)))) nilA)))))) (retS (constE (.bl false))) nextS))
def m_law_right_l1 : Rho → O := (forS (rngI1 (consA (constE (.int 9)) nilA)) (nameG 1) m_law_right_b1)
def m_law_right : Rho → O := (seqS m_law_right_l1
  (retS (constE (.bl true))))
def f_law_right : List Int → List D → Option (D × List Int) := runB 0 2 m_law_right
theorem ok_law_right (tx : Tx K mg T) : FnOk P w K mg base (L2.CX P w) 15 tx.a_law_right tx.d_law_right ["_law_box_here"] (spB K T 0 f_law_right) :=
    fn_box tx.F_law_right sc_law_right (by decide) rfl rfl fun cdv A outer s H E hr hp =>
      (xb_cons (xs_for hp rfl (xi_range1 tx.z_range (xa_cons xe_int xa_nil)) (xg_name 1 sc_law_right.nd) (xb_cons (xs_set 2 sc_law_right.nd (xe_callBx (ok_law_of tx) (hr.mono (by decide)) tx.g_law_of tx.F_law_of.kp (b_law_of tx) takes0 runB_len (xa_cons (xe_name 0) (xa_cons (XF.xe (xf_lst (xa_cons xe_int (xa_cons xe_int (xa_cons (xe_op op_pow p_pow xe_int xe_int) xa_nil))))) xa_nil))))
      (xb_one (xs_if (xt_not (xt_val (xe_callBx (ok_law_case_right tx) (hr.mono (by decide)) tx.g_law_case_right tx.F_law_case_right.kp (b_law_case_right tx) takes0 runB_len (xa_cons (xe_name 0) (xa_cons (xe_callBx (ok_law_bits tx) (hr.mono (by decide)) tx.g_law_bits tx.F_law_bits.kp (b_law_bits tx) takes0 runB_len (xa_cons (xe_name 0) (xa_cons xe_int (xa_cons (xe_name 2) xa_nil)))) (xa_cons (xe_callBx (ok_law_bits tx) (hr.mono (by decide)) tx.g_law_bits tx.F_law_bits.kp (b_law_bits tx) takes0 runB_len (xa_cons (xe_name 0) (xa_cons xe_int (xa_cons (xe_name 2) xa_nil)))) xa_nil)))))) (xb_one (xs_ret xe_bl)) xb_nil))))
      (xb_one (xs_ret xe_bl)))
/-! #### law -/
theorem sc_law : FnScope ["_law_script", "_law_cells_so", "_law_k"] ["_law_script"] (defScope s_law) := ⟨rfl, rfl, rfl, by decide +kernel, rfl, by decide +kernel, by decide +kernel⟩
def m_law_e1 : Rho → R VD := (callNew f_law_right (callL f_law_box (consA (nameE 1) (consA (nameE 2) nilA))))
def m_law_c1 : Rho → R (List D) := (compF [2] (rngI1 (consA (opNE lenD (consA (nameE 1) nilA)) nilA)) (nameG 2) yesT m_law_e1)
def m_law : Rho → O := (seqS (asgS 1 (callE f_law_cells (consA (nameE 0) (consA (constE (.int 3)) nilA))))
  (seqS (ifS (notT (valT (callE f_law_by_hand_right nilA))) (retS (constE (.bl false))) nextS)
  (retS (opNE allD (consA (frzE m_law_c1) nilA)))))
def f_law : List D → Res := runF 1 3 m_law
theorem ok_law (tx : Tx K mg T) : FnOk P w K mg base (L2.CX P w) 16 tx.a_law tx.d_law ["_law_script"] (spP K T 1 f_law) :=
    fn_pure tx.F_law sc_law (by decide) fun cdv A outer s H E hr tk hp =>
      (xb_cons (xs_set 1 sc_law.nd (xe_call (ok_law_cells tx) (hr.mono (by decide)) tx.g_law_cells tx.F_law_cells.kp (b_law_cells tx) tk runF_len (xa_cons (xe_name 0) (xa_cons xe_int xa_nil))))
      (xb_cons (xs_if (xt_not (xt_val (xe_call0 (ok_law_by_hand_right tx) (hr.mono (by decide)) tx.g_law_by_hand_right tx.F_law_by_hand_right.kp (kw_law_by_hand_right tx) tk f_law_by_hand_right_len))) (xb_one (xs_ret xe_bl)) xb_nil)
      (xb_one (xs_ret (xe_callB (cr_all rfl) p_all tx.z_all (by decide +kernel) (xa_cons (XF.xe (xf_lc rfl sc_law.nd (xi_range1 tx.z_range (xa_cons (xe_callB call_len p_len tx.z_len (by decide +kernel) (xa_cons (xe_name 1) xa_nil)) xa_nil)) (blkOk_by (own := [("_law_k", 2)]) (by kernel_rfl)) (fun _ _ _ _ _ => (xgo_name 2 sc_law.nd)) (fun _ _ _ _ _ => xts_nil) (fun _ _ _ _ _ => (xe_callNew (ok_law_right tx) (hr.mono (by decide)) tx.g_law_right tx.F_law_right.kp (b_law_right tx) takes0 (xf_call (ok_law_box tx) (hr.mono (by decide)) tx.g_law_box tx.F_law_box.kp (b_law_box tx) takes0 runL_len (xa_cons (xe_name 1) (xa_cons (xe_name 2) xa_nil))))))) xa_nil))))))
end
/-! ### the end -/
def mkTx {K : PySem.W.Frag} {h : Heap} {mg : Str → Option Value} (X : K.In h) (G : h.Ns mainGlobals mg)
    {C_T fI_T dT_T d0_T pT0 pT1 : Addr} {odI_T anI_T oT_T o0_T : Option Addr} {slI_T sT_T s0_T : Array (Option Value)} {ocI_T kVI_T dcI_T pmI_T cdI_T ctI_T : Value} {nT_T n0_T : Nat}
    {f_is_number : Addr} {od_is_number an_is_number : Option Addr} {sl_is_number : Array (Option Value)} {oc_is_number kV_is_number dc_is_number pm_is_number cd_is_number ct_is_number : Value}
    {f_tupled : Addr} {od_tupled an_tupled : Option Addr} {sl_tupled : Array (Option Value)} {oc_tupled kV_tupled dc_tupled pm_tupled cd_tupled ct_tupled : Value}
    {f_number_in : Addr} {od_number_in an_number_in : Option Addr} {sl_number_in : Array (Option Value)} {oc_number_in kV_number_in dc_number_in pm_number_in cd_number_in ct_number_in : Value}
    {f_run_text : Addr} {od_run_text an_run_text : Option Addr} {sl_run_text : Array (Option Value)} {oc_run_text kV_run_text dc_run_text pm_run_text cd_run_text ct_run_text : Value}
    {f_runs_text : Addr} {od_runs_text an_runs_text : Option Addr} {sl_runs_text : Array (Option Value)} {oc_runs_text kV_runs_text dc_runs_text pm_runs_text cd_runs_text ct_runs_text : Value}
    {f_run_in : Addr} {od_run_in an_run_in : Option Addr} {sl_run_in : Array (Option Value)} {oc_run_in kV_run_in dc_run_in pm_run_in cd_run_in ct_run_in : Value}
    {f_runs_from : Addr} {od_runs_from an_runs_from : Option Addr} {sl_runs_from : Array (Option Value)} {oc_runs_from kV_runs_from dc_runs_from pm_runs_from cd_runs_from ct_runs_from : Value}
    {f_joined_runs : Addr} {od_joined_runs an_joined_runs : Option Addr} {sl_joined_runs : Array (Option Value)} {oc_joined_runs kV_joined_runs dc_joined_runs pm_joined_runs cd_joined_runs ct_joined_runs : Value}
    {f_ends_of : Addr} {od_ends_of an_ends_of : Option Addr} {sl_ends_of : Array (Option Value)} {oc_ends_of kV_ends_of dc_ends_of pm_ends_of cd_ends_of ct_ends_of : Value}
    {f_is_run : Addr} {od_is_run an_is_run : Option Addr} {sl_is_run : Array (Option Value)} {oc_is_run kV_is_run dc_is_run pm_is_run cd_is_run ct_is_run : Value}
    {f_is_runs : Addr} {od_is_runs an_is_runs : Option Addr} {sl_is_runs : Array (Option Value)} {oc_is_runs kV_is_runs dc_is_runs pm_is_runs cd_is_runs ct_is_runs : Value}
    {f_T_runs p_T_runs : Addr} {rs_T_runs : List Value} {od_T_runs an_T_runs : Option Addr} {sl_T_runs : Array (Option Value)} {oc_T_runs kV_T_runs dc_T_runs pm_T_runs cd_T_runs ct_T_runs : Value}
    {f_backwards : Addr} {od_backwards an_backwards : Option Addr} {sl_backwards : Array (Option Value)} {oc_backwards kV_backwards dc_backwards pm_backwards cd_backwards ct_backwards : Value}
    {f_swapped : Addr} {od_swapped an_swapped : Option Addr} {sl_swapped : Array (Option Value)} {oc_swapped kV_swapped dc_swapped pm_swapped cd_swapped ct_swapped : Value}
    {f_law_box : Addr} {od_law_box an_law_box : Option Addr} {sl_law_box : Array (Option Value)} {oc_law_box kV_law_box dc_law_box pm_law_box cd_law_box ct_law_box : Value}
    {f_law_take : Addr} {od_law_take an_law_take : Option Addr} {sl_law_take : Array (Option Value)} {oc_law_take kV_law_take dc_law_take pm_law_take cd_law_take ct_law_take : Value}
    {f_law_cells : Addr} {od_law_cells an_law_cells : Option Addr} {sl_law_cells : Array (Option Value)} {oc_law_cells kV_law_cells dc_law_cells pm_law_cells cd_law_cells ct_law_cells : Value}
    {f_law_of : Addr} {od_law_of an_law_of : Option Addr} {sl_law_of : Array (Option Value)} {oc_law_of kV_law_of dc_law_of pm_law_of cd_law_of ct_law_of : Value}
    {f_law_same : Addr} {od_law_same an_law_same : Option Addr} {sl_law_same : Array (Option Value)} {oc_law_same kV_law_same dc_law_same pm_law_same cd_law_same ct_law_same : Value}
    {f_law_lists : Addr} {od_law_lists an_law_lists : Option Addr} {sl_law_lists : Array (Option Value)} {oc_law_lists kV_law_lists dc_law_lists pm_law_lists cd_law_lists ct_law_lists : Value}
    {f_law_much : Addr} {od_law_much an_law_much : Option Addr} {sl_law_much : Array (Option Value)} {oc_law_much kV_law_much dc_law_much pm_law_much cd_law_much ct_law_much : Value}
    {f_law_bits : Addr} {od_law_bits an_law_bits : Option Addr} {sl_law_bits : Array (Option Value)} {oc_law_bits kV_law_bits dc_law_bits pm_law_bits cd_law_bits ct_law_bits : Value}
    {f_law_joined : Addr} {od_law_joined an_law_joined : Option Addr} {sl_law_joined : Array (Option Value)} {oc_law_joined kV_law_joined dc_law_joined pm_law_joined cd_law_joined ct_law_joined : Value}
    {f_T_size p_T_size : Addr} {rs_T_size : List Value} {od_T_size an_T_size : Option Addr} {sl_T_size : Array (Option Value)} {oc_T_size kV_T_size dc_T_size pm_T_size cd_T_size ct_T_size : Value}
    {f_T_hers p_T_hers : Addr} {rs_T_hers : List Value} {od_T_hers an_T_hers : Option Addr} {sl_T_hers : Array (Option Value)} {oc_T_hers kV_T_hers dc_T_hers pm_T_hers cd_T_hers ct_T_hers : Value}
    {f_T_his p_T_his : Addr} {rs_T_his : List Value} {od_T_his an_T_his : Option Addr} {sl_T_his : Array (Option Value)} {oc_T_his kV_T_his dc_T_his pm_T_his cd_T_his ct_T_his : Value}
    {f_T_ends p_T_ends : Addr} {rs_T_ends : List Value} {od_T_ends an_T_ends : Option Addr} {sl_T_ends : Array (Option Value)} {oc_T_ends kV_T_ends dc_T_ends pm_T_ends cd_T_ends ct_T_ends : Value}
    {f_T_len : Addr} {od_T_len an_T_len : Option Addr} {sl_T_len : Array (Option Value)} {oc_T_len kV_T_len dc_T_len pm_T_len cd_T_len ct_T_len : Value}
    {f_law_shown : Addr} {od_law_shown an_law_shown : Option Addr} {sl_law_shown : Array (Option Value)} {oc_law_shown kV_law_shown dc_law_shown pm_law_shown cd_law_shown ct_law_shown : Value}
    {f_law_kept : Addr} {od_law_kept an_law_kept : Option Addr} {sl_law_kept : Array (Option Value)} {oc_law_kept kV_law_kept dc_law_kept pm_law_kept cd_law_kept ct_law_kept : Value}
    {f_law_due : Addr} {od_law_due an_law_due : Option Addr} {sl_law_due : Array (Option Value)} {oc_law_due kV_law_due dc_law_due pm_law_due cd_law_due ct_law_due : Value}
    {f_law_kinds_right : Addr} {od_law_kinds_right an_law_kinds_right : Option Addr} {sl_law_kinds_right : Array (Option Value)} {oc_law_kinds_right kV_law_kinds_right dc_law_kinds_right pm_law_kinds_right cd_law_kinds_right ct_law_kinds_right : Value}
    {f_T_eq : Addr} {od_T_eq an_T_eq : Option Addr} {sl_T_eq : Array (Option Value)} {oc_T_eq kV_T_eq dc_T_eq pm_T_eq cd_T_eq ct_T_eq : Value}
    {f_T_add : Addr} {od_T_add an_T_add : Option Addr} {sl_T_add : Array (Option Value)} {oc_T_add kV_T_add dc_T_add pm_T_add cd_T_add ct_T_add : Value}
    {f_law_by_hand_right : Addr} {od_law_by_hand_right an_law_by_hand_right : Option Addr} {sl_law_by_hand_right : Array (Option Value)} {oc_law_by_hand_right kV_law_by_hand_right dc_law_by_hand_right pm_law_by_hand_right cd_law_by_hand_right ct_law_by_hand_right : Value}
    {f_law_case_right : Addr} {od_law_case_right an_law_case_right : Option Addr} {sl_law_case_right : Array (Option Value)} {oc_law_case_right kV_law_case_right dc_law_case_right pm_law_case_right cd_law_case_right ct_law_case_right : Value}
    {f_law_right : Addr} {od_law_right an_law_right : Option Addr} {sl_law_right : Array (Option Value)} {oc_law_right kV_law_right dc_law_right pm_law_right cd_law_right ct_law_right : Value}
    {f_law : Addr} {od_law an_law : Option Addr} {sl_law : Array (Option Value)} {oc_law kV_law dc_law pm_law cd_law ct_law : Value}
    {C_BadRun fI_BadRun : Addr} {nm_BadRun q_BadRun : Str} {N_BadRun : Addr} {bs_BadRun : List Value} {B_BadRun : Addr} {sn_BadRun : List Str} {sub_BadRun : List Value} {ab_BadRun : Bool} {col_BadRun : Option Bool} {dd_BadRun : Option Addr} {k0_BadRun k1_BadRun k2_BadRun k3_BadRun k5_BadRun : Option Value}
    {odI_BadRun anI_BadRun : Option Addr} {slI_BadRun : Array (Option Value)} {ocI_BadRun kVI_BadRun dcI_BadRun pmI_BadRun cdI_BadRun ctI_BadRun : Value}
    {C_BadText fI_BadText : Addr} {nm_BadText q_BadText : Str} {N_BadText : Addr} {bs_BadText : List Value} {B_BadText : Addr} {sn_BadText : List Str} {sub_BadText : List Value} {ab_BadText : Bool} {col_BadText : Option Bool} {dd_BadText : Option Addr} {k0_BadText k1_BadText k2_BadText k3_BadText k5_BadText : Option Value}
    {odI_BadText anI_BadText : Option Addr} {slI_BadText : Array (Option Value)} {ocI_BadText kVI_BadText dcI_BadText pmI_BadText cdI_BadText ctI_BadText : Value}
    {C_NoPlace fI_NoPlace : Addr} {nm_NoPlace q_NoPlace : Str} {N_NoPlace : Addr} {bs_NoPlace : List Value} {B_NoPlace : Addr} {sn_NoPlace : List Str} {sub_NoPlace : List Value} {ab_NoPlace : Bool} {col_NoPlace : Option Bool} {dd_NoPlace : Option Addr} {k0_NoPlace k1_NoPlace k2_NoPlace k3_NoPlace k5_NoPlace : Option Value}
    {odI_NoPlace anI_NoPlace : Option Addr} {slI_NoPlace : Array (Option Value)} {ocI_NoPlace kVI_NoPlace dcI_NoPlace pmI_NoPlace cdI_NoPlace ctI_NoPlace : Value}
    {C_H : Addr}
    {t_DIGITS : Tok}
    {t_BLANK : Tok}
    {t_BETWEEN : Tok}
    {t_NOTHING : Tok}
    {t_PAIR_texts : Tok}
    {r_HEIRS_texts : Addr} {od_HEIRS_texts : Option Addr} {n_HEIRS_texts : Nat} {sl_HEIRS_texts : Array (Option Value)} {t_HEIRS_texts_0 t_HEIRS_texts_1 : Tok}
    {t_PAIR_turns : Tok}
    {r_HEIRS_turns : Addr} {od_HEIRS_turns : Option Addr} {n_HEIRS_turns : Nat} {sl_HEIRS_turns : Array (Option Value)} {t_HEIRS_turns_0 t_HEIRS_turns_1 : Tok}
    (gT : PySem.W.nsIn K mainGlobals "Turns" = some (some (.ref C_T)))
    (mkT : PySem.W.makesIn K C_T = true)
    (inT : PySem.W.findIn K (.ref C_T) "__init__" = some (some (.ref fI_T)))
    (isT : PySem.W.isFn K (.ref fI_T) = true)
    (kpT : PySem.W.keepIn K (.ref C_T) = true)
    (pgT : PySem.W.plainGet K C_T Str.empty = true)
    (icT : PySem.W.isClsIn K C_T = true)
    (poT : PySem.W.plainOver K C_T = true)
    (saT : PySem.W.findIn K (.ref C_T) "__setattr__" = some (some (.builtin "object.__setattr__")))
    (sa0T : PySem.W.findIn K (.ref C_T) "own_ends" = some (some (.ref pT0)))
    (sg0T : PySem.W.specialIn K (.ref pT0) "__get__" = some (some (.builtin "member_descriptor.__get__")))
    (st0T : PySem.W.takesIn K (.ref pT0) = some true)
    (sy0T : PySem.W.typeIn K (.ref pT0) = some (.type "member_descriptor"))
    (sx0T : PySem.W.slotIn K pT0 C_T = some 0)
    (sa1T : PySem.W.findIn K (.ref C_T) "own_runs" = some (some (.ref pT1)))
    (sg1T : PySem.W.specialIn K (.ref pT1) "__get__" = some (some (.builtin "member_descriptor.__get__")))
    (st1T : PySem.W.takesIn K (.ref pT1) = some true)
    (sy1T : PySem.W.typeIn K (.ref pT1) = some (.type "member_descriptor"))
    (sx1T : PySem.W.slotIn K pT1 C_T = some 1)
    (lkT : K.lookup fI_T = some ⟨ocI_T, odI_T, .func (PySem.W.fnOf "__init__" "Turns.__init__" (defArgs s_T_init) (defBody s_T_init) (defScope s_T_init) (.ref dT_T) kVI_T dcI_T pmI_T anI_T cdI_T ctI_T), slI_T⟩)
    (cdT : PySem.W.codeIn K cdI_T "Turns.__init__" = true)
    (kfT : PySem.W.keepIn K (.ref fI_T) = true)
    (ldT : K.lookup dT_T = some ⟨.type "tuple", oT_T, .seq #[.ref d0_T] nT_T, sT_T⟩)
    (l0T : K.lookup d0_T = some ⟨.type "tuple", o0_T, .seq #[] n0_T, s0_T⟩)
    (i1T : PySem.W.findIn K (.ref C_T) "__class__" = some (some (.builtin "object.__class__")))
    (i2T : PySem.W.specialIn K (.builtin "object.__class__") "__get__" = some (some (.builtin "getset_descriptor.__get__")))
    (i3T : PySem.W.takesIn K (.builtin "object.__class__") = some true)
    (i4T : PySem.W.mroIn K C_T (.type "object") = some true)
    (i5T : PySem.W.isClsIn K C_T = true)
    (i6T : PySem.W.typeIn K (.ref C_T) = some (.type "type"))
    (i7T : PySem.W.subIn K (.ref C_T) (.ref C_T) = some true)
    (i8T : PySem.W.notFirst K C_T (.ref C_T) = true)
    (i0T : PySem.W.findIn K (.ref C_T) "__ne__" = some (some (.builtin "object.__ne__")))
    (iaT : PySem.W.subIn K (.type "tuple") (.ref C_T) = some false)
    (ibT : PySem.W.subIn K (.type "NoneType") (.ref C_T) = some false)
    (icT2 : PySem.W.notFirst K C_T (.type "tuple") = true)
    (idT : PySem.W.notFirst K C_T (.type "NoneType") = true)
    (i9T : PySem.W.selfFirst K C_T = true)
    (a_is_number : PySem.W.nsIn K mainGlobals "is_number" = some (some (.ref f_is_number)))
    (l_is_number : K.lookup f_is_number = some ⟨oc_is_number, od_is_number, .func (PySem.W.fnOf "is_number" "is_number" (defArgs s_is_number) (defBody s_is_number) (defScope s_is_number) .none kV_is_number dc_is_number pm_is_number an_is_number cd_is_number ct_is_number), sl_is_number⟩)
    (c_is_number : PySem.W.codeIn K cd_is_number "is_number" = true)
    (k_is_number : PySem.W.keepIn K (.ref f_is_number) = true)
    (a_tupled : PySem.W.nsIn K mainGlobals "tupled" = some (some (.ref f_tupled)))
    (l_tupled : K.lookup f_tupled = some ⟨oc_tupled, od_tupled, .func (PySem.W.fnOf "tupled" "tupled" (defArgs s_tupled) (defBody s_tupled) (defScope s_tupled) .none kV_tupled dc_tupled pm_tupled an_tupled cd_tupled ct_tupled), sl_tupled⟩)
    (c_tupled : PySem.W.codeIn K cd_tupled "tupled" = true)
    (k_tupled : PySem.W.keepIn K (.ref f_tupled) = true)
    (a_number_in : PySem.W.nsIn K mainGlobals "number_in" = some (some (.ref f_number_in)))
    (l_number_in : K.lookup f_number_in = some ⟨oc_number_in, od_number_in, .func (PySem.W.fnOf "number_in" "number_in" (defArgs s_number_in) (defBody s_number_in) (defScope s_number_in) .none kV_number_in dc_number_in pm_number_in an_number_in cd_number_in ct_number_in), sl_number_in⟩)
    (c_number_in : PySem.W.codeIn K cd_number_in "number_in" = true)
    (k_number_in : PySem.W.keepIn K (.ref f_number_in) = true)
    (a_run_text : PySem.W.nsIn K mainGlobals "run_text" = some (some (.ref f_run_text)))
    (l_run_text : K.lookup f_run_text = some ⟨oc_run_text, od_run_text, .func (PySem.W.fnOf "run_text" "run_text" (defArgs s_run_text) (defBody s_run_text) (defScope s_run_text) .none kV_run_text dc_run_text pm_run_text an_run_text cd_run_text ct_run_text), sl_run_text⟩)
    (c_run_text : PySem.W.codeIn K cd_run_text "run_text" = true)
    (k_run_text : PySem.W.keepIn K (.ref f_run_text) = true)
    (a_runs_text : PySem.W.nsIn K mainGlobals "runs_text" = some (some (.ref f_runs_text)))
    (l_runs_text : K.lookup f_runs_text = some ⟨oc_runs_text, od_runs_text, .func (PySem.W.fnOf "runs_text" "runs_text" (defArgs s_runs_text) (defBody s_runs_text) (defScope s_runs_text) .none kV_runs_text dc_runs_text pm_runs_text an_runs_text cd_runs_text ct_runs_text), sl_runs_text⟩)
    (c_runs_text : PySem.W.codeIn K cd_runs_text "runs_text" = true)
    (k_runs_text : PySem.W.keepIn K (.ref f_runs_text) = true)
    (a_run_in : PySem.W.nsIn K mainGlobals "run_in" = some (some (.ref f_run_in)))
    (l_run_in : K.lookup f_run_in = some ⟨oc_run_in, od_run_in, .func (PySem.W.fnOf "run_in" "run_in" (defArgs s_run_in) (defBody s_run_in) (defScope s_run_in) .none kV_run_in dc_run_in pm_run_in an_run_in cd_run_in ct_run_in), sl_run_in⟩)
    (c_run_in : PySem.W.codeIn K cd_run_in "run_in" = true)
    (k_run_in : PySem.W.keepIn K (.ref f_run_in) = true)
    (a_runs_from : PySem.W.nsIn K mainGlobals "runs_from" = some (some (.ref f_runs_from)))
    (l_runs_from : K.lookup f_runs_from = some ⟨oc_runs_from, od_runs_from, .func (PySem.W.fnOf "runs_from" "runs_from" (defArgs s_runs_from) (defBody s_runs_from) (defScope s_runs_from) .none kV_runs_from dc_runs_from pm_runs_from an_runs_from cd_runs_from ct_runs_from), sl_runs_from⟩)
    (c_runs_from : PySem.W.codeIn K cd_runs_from "runs_from" = true)
    (k_runs_from : PySem.W.keepIn K (.ref f_runs_from) = true)
    (a_joined_runs : PySem.W.nsIn K mainGlobals "joined_runs" = some (some (.ref f_joined_runs)))
    (l_joined_runs : K.lookup f_joined_runs = some ⟨oc_joined_runs, od_joined_runs, .func (PySem.W.fnOf "joined_runs" "joined_runs" (defArgs s_joined_runs) (defBody s_joined_runs) (defScope s_joined_runs) .none kV_joined_runs dc_joined_runs pm_joined_runs an_joined_runs cd_joined_runs ct_joined_runs), sl_joined_runs⟩)
    (c_joined_runs : PySem.W.codeIn K cd_joined_runs "joined_runs" = true)
    (k_joined_runs : PySem.W.keepIn K (.ref f_joined_runs) = true)
    (a_ends_of : PySem.W.nsIn K mainGlobals "ends_of" = some (some (.ref f_ends_of)))
    (l_ends_of : K.lookup f_ends_of = some ⟨oc_ends_of, od_ends_of, .func (PySem.W.fnOf "ends_of" "ends_of" (defArgs s_ends_of) (defBody s_ends_of) (defScope s_ends_of) .none kV_ends_of dc_ends_of pm_ends_of an_ends_of cd_ends_of ct_ends_of), sl_ends_of⟩)
    (c_ends_of : PySem.W.codeIn K cd_ends_of "ends_of" = true)
    (k_ends_of : PySem.W.keepIn K (.ref f_ends_of) = true)
    (a_is_run : PySem.W.nsIn K mainGlobals "is_run" = some (some (.ref f_is_run)))
    (l_is_run : K.lookup f_is_run = some ⟨oc_is_run, od_is_run, .func (PySem.W.fnOf "is_run" "is_run" (defArgs s_is_run) (defBody s_is_run) (defScope s_is_run) .none kV_is_run dc_is_run pm_is_run an_is_run cd_is_run ct_is_run), sl_is_run⟩)
    (c_is_run : PySem.W.codeIn K cd_is_run "is_run" = true)
    (k_is_run : PySem.W.keepIn K (.ref f_is_run) = true)
    (a_is_runs : PySem.W.nsIn K mainGlobals "is_runs" = some (some (.ref f_is_runs)))
    (l_is_runs : K.lookup f_is_runs = some ⟨oc_is_runs, od_is_runs, .func (PySem.W.fnOf "is_runs" "is_runs" (defArgs s_is_runs) (defBody s_is_runs) (defScope s_is_runs) .none kV_is_runs dc_is_runs pm_is_runs an_is_runs cd_is_runs ct_is_runs), sl_is_runs⟩)
    (c_is_runs : PySem.W.codeIn K cd_is_runs "is_runs" = true)
    (k_is_runs : PySem.W.keepIn K (.ref f_is_runs) = true)
    (pa_T_runs : PySem.W.findIn K (.ref C_T) "runs" = some (some (.ref p_T_runs)))
    (pg_T_runs : PySem.W.specialIn K (.ref p_T_runs) "__get__" = some (some (.builtin "property.__get__")))
    (pt_T_runs : PySem.W.takesIn K (.ref p_T_runs) = some true)
    (pr_T_runs : PySem.W.recIn K p_T_runs "property" = some (.ref f_T_runs :: rs_T_runs))
    (l_T_runs : K.lookup f_T_runs = some ⟨oc_T_runs, od_T_runs, .func (PySem.W.fnOf "runs" "Turns.runs" (defArgs s_T_runs) (defBody s_T_runs) (defScope s_T_runs) .none kV_T_runs dc_T_runs pm_T_runs an_T_runs cd_T_runs ct_T_runs), sl_T_runs⟩)
    (c_T_runs : PySem.W.codeIn K cd_T_runs "Turns.runs" = true)
    (k_T_runs : PySem.W.keepIn K (.ref f_T_runs) = true)
    (a_backwards : PySem.W.nsIn K mainGlobals "backwards" = some (some (.ref f_backwards)))
    (l_backwards : K.lookup f_backwards = some ⟨oc_backwards, od_backwards, .func (PySem.W.fnOf "backwards" "backwards" (defArgs s_backwards) (defBody s_backwards) (defScope s_backwards) .none kV_backwards dc_backwards pm_backwards an_backwards cd_backwards ct_backwards), sl_backwards⟩)
    (c_backwards : PySem.W.codeIn K cd_backwards "backwards" = true)
    (k_backwards : PySem.W.keepIn K (.ref f_backwards) = true)
    (a_swapped : PySem.W.nsIn K mainGlobals "swapped" = some (some (.ref f_swapped)))
    (l_swapped : K.lookup f_swapped = some ⟨oc_swapped, od_swapped, .func (PySem.W.fnOf "swapped" "swapped" (defArgs s_swapped) (defBody s_swapped) (defScope s_swapped) .none kV_swapped dc_swapped pm_swapped an_swapped cd_swapped ct_swapped), sl_swapped⟩)
    (c_swapped : PySem.W.codeIn K cd_swapped "swapped" = true)
    (k_swapped : PySem.W.keepIn K (.ref f_swapped) = true)
    (a_law_box : PySem.W.nsIn K mainGlobals "_law_box" = some (some (.ref f_law_box)))
    (l_law_box : K.lookup f_law_box = some ⟨oc_law_box, od_law_box, .func (PySem.W.fnOf "_law_box" "_law_box" (defArgs s_law_box) (defBody s_law_box) (defScope s_law_box) .none kV_law_box dc_law_box pm_law_box an_law_box cd_law_box ct_law_box), sl_law_box⟩)
    (c_law_box : PySem.W.codeIn K cd_law_box "_law_box" = true)
    (k_law_box : PySem.W.keepIn K (.ref f_law_box) = true)
    (a_law_take : PySem.W.nsIn K mainGlobals "_law_take" = some (some (.ref f_law_take)))
    (l_law_take : K.lookup f_law_take = some ⟨oc_law_take, od_law_take, .func (PySem.W.fnOf "_law_take" "_law_take" (defArgs s_law_take) (defBody s_law_take) (defScope s_law_take) .none kV_law_take dc_law_take pm_law_take an_law_take cd_law_take ct_law_take), sl_law_take⟩)
    (c_law_take : PySem.W.codeIn K cd_law_take "_law_take" = true)
    (k_law_take : PySem.W.keepIn K (.ref f_law_take) = true)
    (a_law_cells : PySem.W.nsIn K mainGlobals "_law_cells" = some (some (.ref f_law_cells)))
    (l_law_cells : K.lookup f_law_cells = some ⟨oc_law_cells, od_law_cells, .func (PySem.W.fnOf "_law_cells" "_law_cells" (defArgs s_law_cells) (defBody s_law_cells) (defScope s_law_cells) .none kV_law_cells dc_law_cells pm_law_cells an_law_cells cd_law_cells ct_law_cells), sl_law_cells⟩)
    (c_law_cells : PySem.W.codeIn K cd_law_cells "_law_cells" = true)
    (k_law_cells : PySem.W.keepIn K (.ref f_law_cells) = true)
    (a_law_of : PySem.W.nsIn K mainGlobals "_law_of" = some (some (.ref f_law_of)))
    (l_law_of : K.lookup f_law_of = some ⟨oc_law_of, od_law_of, .func (PySem.W.fnOf "_law_of" "_law_of" (defArgs s_law_of) (defBody s_law_of) (defScope s_law_of) .none kV_law_of dc_law_of pm_law_of an_law_of cd_law_of ct_law_of), sl_law_of⟩)
    (c_law_of : PySem.W.codeIn K cd_law_of "_law_of" = true)
    (k_law_of : PySem.W.keepIn K (.ref f_law_of) = true)
    (a_law_same : PySem.W.nsIn K mainGlobals "_law_same" = some (some (.ref f_law_same)))
    (l_law_same : K.lookup f_law_same = some ⟨oc_law_same, od_law_same, .func (PySem.W.fnOf "_law_same" "_law_same" (defArgs s_law_same) (defBody s_law_same) (defScope s_law_same) .none kV_law_same dc_law_same pm_law_same an_law_same cd_law_same ct_law_same), sl_law_same⟩)
    (c_law_same : PySem.W.codeIn K cd_law_same "_law_same" = true)
    (k_law_same : PySem.W.keepIn K (.ref f_law_same) = true)
    (a_law_lists : PySem.W.nsIn K mainGlobals "_law_lists" = some (some (.ref f_law_lists)))
    (l_law_lists : K.lookup f_law_lists = some ⟨oc_law_lists, od_law_lists, .func (PySem.W.fnOf "_law_lists" "_law_lists" (defArgs s_law_lists) (defBody s_law_lists) (defScope s_law_lists) .none kV_law_lists dc_law_lists pm_law_lists an_law_lists cd_law_lists ct_law_lists), sl_law_lists⟩)
    (c_law_lists : PySem.W.codeIn K cd_law_lists "_law_lists" = true)
    (k_law_lists : PySem.W.keepIn K (.ref f_law_lists) = true)
    (a_law_much : PySem.W.nsIn K mainGlobals "_law_much" = some (some (.ref f_law_much)))
    (l_law_much : K.lookup f_law_much = some ⟨oc_law_much, od_law_much, .func (PySem.W.fnOf "_law_much" "_law_much" (defArgs s_law_much) (defBody s_law_much) (defScope s_law_much) .none kV_law_much dc_law_much pm_law_much an_law_much cd_law_much ct_law_much), sl_law_much⟩)
    (c_law_much : PySem.W.codeIn K cd_law_much "_law_much" = true)
    (k_law_much : PySem.W.keepIn K (.ref f_law_much) = true)
    (a_law_bits : PySem.W.nsIn K mainGlobals "_law_bits" = some (some (.ref f_law_bits)))
    (l_law_bits : K.lookup f_law_bits = some ⟨oc_law_bits, od_law_bits, .func (PySem.W.fnOf "_law_bits" "_law_bits" (defArgs s_law_bits) (defBody s_law_bits) (defScope s_law_bits) .none kV_law_bits dc_law_bits pm_law_bits an_law_bits cd_law_bits ct_law_bits), sl_law_bits⟩)
    (c_law_bits : PySem.W.codeIn K cd_law_bits "_law_bits" = true)
    (k_law_bits : PySem.W.keepIn K (.ref f_law_bits) = true)
    (a_law_joined : PySem.W.nsIn K mainGlobals "_law_joined" = some (some (.ref f_law_joined)))
    (l_law_joined : K.lookup f_law_joined = some ⟨oc_law_joined, od_law_joined, .func (PySem.W.fnOf "_law_joined" "_law_joined" (defArgs s_law_joined) (defBody s_law_joined) (defScope s_law_joined) .none kV_law_joined dc_law_joined pm_law_joined an_law_joined cd_law_joined ct_law_joined), sl_law_joined⟩)
    (c_law_joined : PySem.W.codeIn K cd_law_joined "_law_joined" = true)
    (k_law_joined : PySem.W.keepIn K (.ref f_law_joined) = true)
    (pa_T_size : PySem.W.findIn K (.ref C_T) "size" = some (some (.ref p_T_size)))
    (pg_T_size : PySem.W.specialIn K (.ref p_T_size) "__get__" = some (some (.builtin "property.__get__")))
    (pt_T_size : PySem.W.takesIn K (.ref p_T_size) = some true)
    (pr_T_size : PySem.W.recIn K p_T_size "property" = some (.ref f_T_size :: rs_T_size))
    (l_T_size : K.lookup f_T_size = some ⟨oc_T_size, od_T_size, .func (PySem.W.fnOf "size" "Turns.size" (defArgs s_T_size) (defBody s_T_size) (defScope s_T_size) .none kV_T_size dc_T_size pm_T_size an_T_size cd_T_size ct_T_size), sl_T_size⟩)
    (c_T_size : PySem.W.codeIn K cd_T_size "Turns.size" = true)
    (k_T_size : PySem.W.keepIn K (.ref f_T_size) = true)
    (pa_T_hers : PySem.W.findIn K (.ref C_T) "hers" = some (some (.ref p_T_hers)))
    (pg_T_hers : PySem.W.specialIn K (.ref p_T_hers) "__get__" = some (some (.builtin "property.__get__")))
    (pt_T_hers : PySem.W.takesIn K (.ref p_T_hers) = some true)
    (pr_T_hers : PySem.W.recIn K p_T_hers "property" = some (.ref f_T_hers :: rs_T_hers))
    (l_T_hers : K.lookup f_T_hers = some ⟨oc_T_hers, od_T_hers, .func (PySem.W.fnOf "hers" "Turns.hers" (defArgs s_T_hers) (defBody s_T_hers) (defScope s_T_hers) .none kV_T_hers dc_T_hers pm_T_hers an_T_hers cd_T_hers ct_T_hers), sl_T_hers⟩)
    (c_T_hers : PySem.W.codeIn K cd_T_hers "Turns.hers" = true)
    (k_T_hers : PySem.W.keepIn K (.ref f_T_hers) = true)
    (pa_T_his : PySem.W.findIn K (.ref C_T) "his" = some (some (.ref p_T_his)))
    (pg_T_his : PySem.W.specialIn K (.ref p_T_his) "__get__" = some (some (.builtin "property.__get__")))
    (pt_T_his : PySem.W.takesIn K (.ref p_T_his) = some true)
    (pr_T_his : PySem.W.recIn K p_T_his "property" = some (.ref f_T_his :: rs_T_his))
    (l_T_his : K.lookup f_T_his = some ⟨oc_T_his, od_T_his, .func (PySem.W.fnOf "his" "Turns.his" (defArgs s_T_his) (defBody s_T_his) (defScope s_T_his) .none kV_T_his dc_T_his pm_T_his an_T_his cd_T_his ct_T_his), sl_T_his⟩)
    (c_T_his : PySem.W.codeIn K cd_T_his "Turns.his" = true)
    (k_T_his : PySem.W.keepIn K (.ref f_T_his) = true)
    (pa_T_ends : PySem.W.findIn K (.ref C_T) "ends" = some (some (.ref p_T_ends)))
    (pg_T_ends : PySem.W.specialIn K (.ref p_T_ends) "__get__" = some (some (.builtin "property.__get__")))
    (pt_T_ends : PySem.W.takesIn K (.ref p_T_ends) = some true)
    (pr_T_ends : PySem.W.recIn K p_T_ends "property" = some (.ref f_T_ends :: rs_T_ends))
    (l_T_ends : K.lookup f_T_ends = some ⟨oc_T_ends, od_T_ends, .func (PySem.W.fnOf "ends" "Turns.ends" (defArgs s_T_ends) (defBody s_T_ends) (defScope s_T_ends) .none kV_T_ends dc_T_ends pm_T_ends an_T_ends cd_T_ends ct_T_ends), sl_T_ends⟩)
    (c_T_ends : PySem.W.codeIn K cd_T_ends "Turns.ends" = true)
    (k_T_ends : PySem.W.keepIn K (.ref f_T_ends) = true)
    (ma_T_len : PySem.W.findIn K (.ref C_T) "__len__" = some (some (.ref f_T_len)))
    (mb_T_len : PySem.W.isFn K (.ref f_T_len) = true)
    (mc_T_len : PySem.W.fnIn K f_T_len = true)
    (l_T_len : K.lookup f_T_len = some ⟨oc_T_len, od_T_len, .func (PySem.W.fnOf "__len__" "Turns.__len__" (defArgs s_T_len) (defBody s_T_len) (defScope s_T_len) .none kV_T_len dc_T_len pm_T_len an_T_len cd_T_len ct_T_len), sl_T_len⟩)
    (c_T_len : PySem.W.codeIn K cd_T_len "Turns.__len__" = true)
    (k_T_len : PySem.W.keepIn K (.ref f_T_len) = true)
    (a_law_shown : PySem.W.nsIn K mainGlobals "_law_shown" = some (some (.ref f_law_shown)))
    (l_law_shown : K.lookup f_law_shown = some ⟨oc_law_shown, od_law_shown, .func (PySem.W.fnOf "_law_shown" "_law_shown" (defArgs s_law_shown) (defBody s_law_shown) (defScope s_law_shown) .none kV_law_shown dc_law_shown pm_law_shown an_law_shown cd_law_shown ct_law_shown), sl_law_shown⟩)
    (c_law_shown : PySem.W.codeIn K cd_law_shown "_law_shown" = true)
    (k_law_shown : PySem.W.keepIn K (.ref f_law_shown) = true)
    (a_law_kept : PySem.W.nsIn K mainGlobals "_law_kept" = some (some (.ref f_law_kept)))
    (l_law_kept : K.lookup f_law_kept = some ⟨oc_law_kept, od_law_kept, .func (PySem.W.fnOf "_law_kept" "_law_kept" (defArgs s_law_kept) (defBody s_law_kept) (defScope s_law_kept) .none kV_law_kept dc_law_kept pm_law_kept an_law_kept cd_law_kept ct_law_kept), sl_law_kept⟩)
    (c_law_kept : PySem.W.codeIn K cd_law_kept "_law_kept" = true)
    (k_law_kept : PySem.W.keepIn K (.ref f_law_kept) = true)
    (a_law_due : PySem.W.nsIn K mainGlobals "_law_due" = some (some (.ref f_law_due)))
    (l_law_due : K.lookup f_law_due = some ⟨oc_law_due, od_law_due, .func (PySem.W.fnOf "_law_due" "_law_due" (defArgs s_law_due) (defBody s_law_due) (defScope s_law_due) .none kV_law_due dc_law_due pm_law_due an_law_due cd_law_due ct_law_due), sl_law_due⟩)
    (c_law_due : PySem.W.codeIn K cd_law_due "_law_due" = true)
    (k_law_due : PySem.W.keepIn K (.ref f_law_due) = true)
    (a_law_kinds_right : PySem.W.nsIn K mainGlobals "_law_kinds_right" = some (some (.ref f_law_kinds_right)))
    (l_law_kinds_right : K.lookup f_law_kinds_right = some ⟨oc_law_kinds_right, od_law_kinds_right, .func (PySem.W.fnOf "_law_kinds_right" "_law_kinds_right" (defArgs s_law_kinds_right) (defBody s_law_kinds_right) (defScope s_law_kinds_right) .none kV_law_kinds_right dc_law_kinds_right pm_law_kinds_right an_law_kinds_right cd_law_kinds_right ct_law_kinds_right), sl_law_kinds_right⟩)
    (c_law_kinds_right : PySem.W.codeIn K cd_law_kinds_right "_law_kinds_right" = true)
    (k_law_kinds_right : PySem.W.keepIn K (.ref f_law_kinds_right) = true)
    (ma_T_eq : PySem.W.findIn K (.ref C_T) "__eq__" = some (some (.ref f_T_eq)))
    (mb_T_eq : PySem.W.isFn K (.ref f_T_eq) = true)
    (mc_T_eq : PySem.W.fnIn K f_T_eq = true)
    (l_T_eq : K.lookup f_T_eq = some ⟨oc_T_eq, od_T_eq, .func (PySem.W.fnOf "__eq__" "Turns.__eq__" (defArgs s_T_eq) (defBody s_T_eq) (defScope s_T_eq) .none kV_T_eq dc_T_eq pm_T_eq an_T_eq cd_T_eq ct_T_eq), sl_T_eq⟩)
    (c_T_eq : PySem.W.codeIn K cd_T_eq "Turns.__eq__" = true)
    (k_T_eq : PySem.W.keepIn K (.ref f_T_eq) = true)
    (ma_T_add : PySem.W.findIn K (.ref C_T) "__add__" = some (some (.ref f_T_add)))
    (mb_T_add : PySem.W.isFn K (.ref f_T_add) = true)
    (mc_T_add : PySem.W.fnIn K f_T_add = true)
    (l_T_add : K.lookup f_T_add = some ⟨oc_T_add, od_T_add, .func (PySem.W.fnOf "__add__" "Turns.__add__" (defArgs s_T_add) (defBody s_T_add) (defScope s_T_add) .none kV_T_add dc_T_add pm_T_add an_T_add cd_T_add ct_T_add), sl_T_add⟩)
    (c_T_add : PySem.W.codeIn K cd_T_add "Turns.__add__" = true)
    (k_T_add : PySem.W.keepIn K (.ref f_T_add) = true)
    (a_law_by_hand_right : PySem.W.nsIn K mainGlobals "_law_by_hand_right" = some (some (.ref f_law_by_hand_right)))
    (l_law_by_hand_right : K.lookup f_law_by_hand_right = some ⟨oc_law_by_hand_right, od_law_by_hand_right, .func (PySem.W.fnOf "_law_by_hand_right" "_law_by_hand_right" (defArgs s_law_by_hand_right) (defBody s_law_by_hand_right) (defScope s_law_by_hand_right) .none kV_law_by_hand_right dc_law_by_hand_right pm_law_by_hand_right an_law_by_hand_right cd_law_by_hand_right ct_law_by_hand_right), sl_law_by_hand_right⟩)
    (c_law_by_hand_right : PySem.W.codeIn K cd_law_by_hand_right "_law_by_hand_right" = true)
    (k_law_by_hand_right : PySem.W.keepIn K (.ref f_law_by_hand_right) = true)
    (a_law_case_right : PySem.W.nsIn K mainGlobals "_law_case_right" = some (some (.ref f_law_case_right)))
    (l_law_case_right : K.lookup f_law_case_right = some ⟨oc_law_case_right, od_law_case_right, .func (PySem.W.fnOf "_law_case_right" "_law_case_right" (defArgs s_law_case_right) (defBody s_law_case_right) (defScope s_law_case_right) .none kV_law_case_right dc_law_case_right pm_law_case_right an_law_case_right cd_law_case_right ct_law_case_right), sl_law_case_right⟩)
    (c_law_case_right : PySem.W.codeIn K cd_law_case_right "_law_case_right" = true)
    (k_law_case_right : PySem.W.keepIn K (.ref f_law_case_right) = true)
    (a_law_right : PySem.W.nsIn K mainGlobals "_law_right" = some (some (.ref f_law_right)))
    (l_law_right : K.lookup f_law_right = some ⟨oc_law_right, od_law_right, .func (PySem.W.fnOf "_law_right" "_law_right" (defArgs s_law_right) (defBody s_law_right) (defScope s_law_right) .none kV_law_right dc_law_right pm_law_right an_law_right cd_law_right ct_law_right), sl_law_right⟩)
    (c_law_right : PySem.W.codeIn K cd_law_right "_law_right" = true)
    (k_law_right : PySem.W.keepIn K (.ref f_law_right) = true)
    (a_law : PySem.W.nsIn K mainGlobals "law" = some (some (.ref f_law)))
    (l_law : K.lookup f_law = some ⟨oc_law, od_law, .func (PySem.W.fnOf "law" "law" (defArgs s_law) (defBody s_law) (defScope s_law) .none kV_law dc_law pm_law an_law cd_law ct_law), sl_law⟩)
    (c_law : PySem.W.codeIn K cd_law "law" = true)
    (k_law : PySem.W.keepIn K (.ref f_law) = true)
    (eg_BadRun : PySem.W.nsIn K mainGlobals "BadRun" = some (some (.ref C_BadRun)))
    (el_BadRun : K.lookup C_BadRun = some (excClassObj nm_BadRun q_BadRun C_BadRun N_BadRun bs_BadRun [.ref B_BadRun, .type "ValueError", .type "Exception", .type "BaseException", .type "object"] true sn_BadRun sub_BadRun ab_BadRun col_BadRun dd_BadRun k0_BadRun k1_BadRun k2_BadRun k3_BadRun k5_BadRun "ValueError.__new__"))
    (esa_BadRun : PySem.W.findIn K (.ref C_BadRun) "__setattr__" = some (some (.builtin "object.__setattr__")))
    (eex_BadRun : PySem.W.subIn K (.ref C_BadRun) (.type "BaseException") = some true)
    (ety_BadRun : PySem.W.typeIn K (.ref C_BadRun) = some (.type "type"))
    (ek_BadRun : PySem.W.keepIn K (.ref C_BadRun) = true)
    (ei_BadRun : PySem.W.findIn K (.ref C_BadRun) "__init__" = some (some (.ref fI_BadRun)))
    (eti_BadRun : PySem.W.typeIn K (.ref fI_BadRun) = some (.type "function"))
    (eno_BadRun : PySem.W.findIn K (.ref C_BadRun) "place" = some none)
    (ega_BadRun : PySem.W.findIn K (.ref C_BadRun) "__getattribute__" = some (some (.builtin "BaseException.__getattribute__")))
    (egg_BadRun : PySem.W.findIn K (.ref C_BadRun) "__getattr__" = some none)
    (ehd_BadRun : PySem.W.hasDictIn K C_BadRun = true)
    (eli_BadRun : K.lookup fI_BadRun = some ⟨ocI_BadRun, odI_BadRun, .func (PySem.W.fnOf "__init__" "BadRun.__init__" (defArgs si_BadRun) (defBody si_BadRun) (defScope si_BadRun) .none kVI_BadRun dcI_BadRun pmI_BadRun anI_BadRun cdI_BadRun ctI_BadRun), slI_BadRun⟩)
    (eci_BadRun : PySem.W.codeIn K cdI_BadRun "BadRun.__init__" = true)
    (eki_BadRun : PySem.W.keepIn K (.ref fI_BadRun) = true)
    (eg_BadText : PySem.W.nsIn K mainGlobals "BadText" = some (some (.ref C_BadText)))
    (el_BadText : K.lookup C_BadText = some (excClassObj nm_BadText q_BadText C_BadText N_BadText bs_BadText [.ref B_BadText, .type "ValueError", .type "Exception", .type "BaseException", .type "object"] true sn_BadText sub_BadText ab_BadText col_BadText dd_BadText k0_BadText k1_BadText k2_BadText k3_BadText k5_BadText "ValueError.__new__"))
    (esa_BadText : PySem.W.findIn K (.ref C_BadText) "__setattr__" = some (some (.builtin "object.__setattr__")))
    (eex_BadText : PySem.W.subIn K (.ref C_BadText) (.type "BaseException") = some true)
    (ety_BadText : PySem.W.typeIn K (.ref C_BadText) = some (.type "type"))
    (ek_BadText : PySem.W.keepIn K (.ref C_BadText) = true)
    (ei_BadText : PySem.W.findIn K (.ref C_BadText) "__init__" = some (some (.ref fI_BadText)))
    (eti_BadText : PySem.W.typeIn K (.ref fI_BadText) = some (.type "function"))
    (eno_BadText : PySem.W.findIn K (.ref C_BadText) "piece" = some none)
    (ega_BadText : PySem.W.findIn K (.ref C_BadText) "__getattribute__" = some (some (.builtin "BaseException.__getattribute__")))
    (egg_BadText : PySem.W.findIn K (.ref C_BadText) "__getattr__" = some none)
    (ehd_BadText : PySem.W.hasDictIn K C_BadText = true)
    (eli_BadText : K.lookup fI_BadText = some ⟨ocI_BadText, odI_BadText, .func (PySem.W.fnOf "__init__" "BadText.__init__" (defArgs si_BadText) (defBody si_BadText) (defScope si_BadText) .none kVI_BadText dcI_BadText pmI_BadText anI_BadText cdI_BadText ctI_BadText), slI_BadText⟩)
    (eci_BadText : PySem.W.codeIn K cdI_BadText "BadText.__init__" = true)
    (eki_BadText : PySem.W.keepIn K (.ref fI_BadText) = true)
    (eg_NoPlace : PySem.W.nsIn K mainGlobals "NoPlace" = some (some (.ref C_NoPlace)))
    (el_NoPlace : K.lookup C_NoPlace = some (excClassObj nm_NoPlace q_NoPlace C_NoPlace N_NoPlace bs_NoPlace [.ref B_NoPlace, .type "ValueError", .type "Exception", .type "BaseException", .type "object"] true sn_NoPlace sub_NoPlace ab_NoPlace col_NoPlace dd_NoPlace k0_NoPlace k1_NoPlace k2_NoPlace k3_NoPlace k5_NoPlace "ValueError.__new__"))
    (esa_NoPlace : PySem.W.findIn K (.ref C_NoPlace) "__setattr__" = some (some (.builtin "object.__setattr__")))
    (eex_NoPlace : PySem.W.subIn K (.ref C_NoPlace) (.type "BaseException") = some true)
    (ety_NoPlace : PySem.W.typeIn K (.ref C_NoPlace) = some (.type "type"))
    (ek_NoPlace : PySem.W.keepIn K (.ref C_NoPlace) = true)
    (ei_NoPlace : PySem.W.findIn K (.ref C_NoPlace) "__init__" = some (some (.ref fI_NoPlace)))
    (eti_NoPlace : PySem.W.typeIn K (.ref fI_NoPlace) = some (.type "function"))
    (eno_NoPlace : PySem.W.findIn K (.ref C_NoPlace) "number" = some none)
    (ega_NoPlace : PySem.W.findIn K (.ref C_NoPlace) "__getattribute__" = some (some (.builtin "BaseException.__getattribute__")))
    (egg_NoPlace : PySem.W.findIn K (.ref C_NoPlace) "__getattr__" = some none)
    (ehd_NoPlace : PySem.W.hasDictIn K C_NoPlace = true)
    (eli_NoPlace : K.lookup fI_NoPlace = some ⟨ocI_NoPlace, odI_NoPlace, .func (PySem.W.fnOf "__init__" "NoPlace.__init__" (defArgs si_NoPlace) (defBody si_NoPlace) (defScope si_NoPlace) .none kVI_NoPlace dcI_NoPlace pmI_NoPlace anI_NoPlace cdI_NoPlace ctI_NoPlace), slI_NoPlace⟩)
    (eci_NoPlace : PySem.W.codeIn K cdI_NoPlace "NoPlace.__init__" = true)
    (eki_NoPlace : PySem.W.keepIn K (.ref fI_NoPlace) = true)
    (ka_BadRun : PySem.W.findIn K (.ref C_BadRun) "__class__" = some (some (.builtin "object.__class__")))
    (km_BadRun : PySem.W.mroIn K C_BadRun (.type "object") = some true)
    (ka_BadText : PySem.W.findIn K (.ref C_BadText) "__class__" = some (some (.builtin "object.__class__")))
    (km_BadText : PySem.W.mroIn K C_BadText (.type "object") = some true)
    (ka_NoPlace : PySem.W.findIn K (.ref C_NoPlace) "__class__" = some (some (.builtin "object.__class__")))
    (km_NoPlace : PySem.W.mroIn K C_NoPlace (.type "object") = some true)
    (kn : PySem.W.specialIn K (.builtin "object.__class__") "__get__" = some (some (.builtin "getset_descriptor.__get__")))
    (kt : PySem.W.takesIn K (.builtin "object.__class__") = some true)
    (gH : PySem.W.nsIn K mainGlobals "HeirError" = some (some (.ref C_H)))
    (hHd : PySem.W.hasDictIn K C_H = true)
    (hHt : PySem.W.typeIn K (.ref C_H) = some (.type "type"))
    (hHe : PySem.W.subIn K (.ref C_H) (.type "BaseException") = some true)
    (su_H_H : PySem.W.subIn K (.ref C_H) (.ref C_H) = some true)
    (ki_BadRun_ValueError : PySem.W.subIn K (.ref C_BadRun) (.type "ValueError") = some true)
    (ki_BadText_ValueError : PySem.W.subIn K (.ref C_BadText) (.type "ValueError") = some true)
    (ki_NoPlace_ValueError : PySem.W.subIn K (.ref C_NoPlace) (.type "ValueError") = some true)
    (su_BadRun_H : PySem.W.subIn K (.ref C_BadRun) (.ref C_H) = some true)
    (su_BadText_H : PySem.W.subIn K (.ref C_BadText) (.ref C_H) = some true)
    (su_NoPlace_H : PySem.W.subIn K (.ref C_NoPlace) (.ref C_H) = some true)
    (su_BadRun_BadRun : PySem.W.subIn K (.ref C_BadRun) (.ref C_BadRun) = some true)
    (su_BadText_BadRun : PySem.W.subIn K (.ref C_BadText) (.ref C_BadRun) = some false)
    (su_NoPlace_BadRun : PySem.W.subIn K (.ref C_NoPlace) (.ref C_BadRun) = some false)
    (z_ValueError : PySem.W.nsIn K mainGlobals "ValueError" = some none)
    (z_abs : PySem.W.nsIn K mainGlobals "abs" = some none)
    (z_all : PySem.W.nsIn K mainGlobals "all" = some none)
    (z_bool : PySem.W.nsIn K mainGlobals "bool" = some none)
    (z_enumerate : PySem.W.nsIn K mainGlobals "enumerate" = some none)
    (z_int : PySem.W.nsIn K mainGlobals "int" = some none)
    (z_isinstance : PySem.W.nsIn K mainGlobals "isinstance" = some none)
    (z_len : PySem.W.nsIn K mainGlobals "len" = some none)
    (z_list : PySem.W.nsIn K mainGlobals "list" = some none)
    (z_range : PySem.W.nsIn K mainGlobals "range" = some none)
    (z_str : PySem.W.nsIn K mainGlobals "str" = some none)
    (z_sum : PySem.W.nsIn K mainGlobals "sum" = some none)
    (z_tuple : PySem.W.nsIn K mainGlobals "tuple" = some none)
    (z_zip : PySem.W.nsIn K mainGlobals "zip" = some none)
    (q_DIGITS : PySem.W.nsIn K mainGlobals "DIGITS" = some (some (.str "0123456789" t_DIGITS)))
    (q_BLANK : PySem.W.nsIn K mainGlobals "BLANK" = some (some (.str " " t_BLANK)))
    (q_BETWEEN : PySem.W.nsIn K mainGlobals "BETWEEN" = some (some (.str "; " t_BETWEEN)))
    (q_NOTHING : PySem.W.nsIn K mainGlobals "NOTHING" = some (some (.str "-" t_NOTHING)))
    (q_PAIR_texts : PySem.W.nsIn K mainGlobals "PAIR_texts" = some (some (.int (2) t_PAIR_texts)))
    (q_HEIRS_texts : PySem.W.nsIn K mainGlobals "HEIRS_texts" = some (some (.ref r_HEIRS_texts)))
    (lt_HEIRS_texts : K.lookup r_HEIRS_texts = some ⟨.type "tuple", od_HEIRS_texts, .seq #[.str "a" t_HEIRS_texts_0, .str "b" t_HEIRS_texts_1] n_HEIRS_texts, sl_HEIRS_texts⟩)
    (q_PAIR_turns : PySem.W.nsIn K mainGlobals "PAIR_turns" = some (some (.int (2) t_PAIR_turns)))
    (q_HEIRS_turns : PySem.W.nsIn K mainGlobals "HEIRS_turns" = some (some (.ref r_HEIRS_turns)))
    (lt_HEIRS_turns : K.lookup r_HEIRS_turns = some ⟨.type "tuple", od_HEIRS_turns, .seq #[.str "a" t_HEIRS_turns_0, .str "b" t_HEIRS_turns_1] n_HEIRS_turns, sl_HEIRS_turns⟩) : Tx K mg (tbT [(20, C_T), (0, C_BadRun), (1, C_BadText), (4, C_NoPlace)]) :=
  { neT := i0T, moT := i4T,
    ktT := kit_ref3 i5T i6T i7T iaT, knT := kit_ref3 i5T i6T i7T ibT, ntT := icT2, nnT := idT,
    siT := ⟨i1T, i2T, i3T, i4T⟩, kiT := kit_ref3 i5T i6T i7T i7T, nfT := i8T,
    sfT := i9T,
    fI_T := fI_T, fd_T := _, d0_T := d0_T, pT0 := pT0, pT1 := pT1, FT := funU_mk lkT cdT kfT ldT l0T, gT := PySem.W.mg_of X G gT, mT := ⟨mkT, inT, isT, kpT⟩, scT := ⟨pgT, icT, poT, saT⟩, sT0 := ⟨sa0T, sg0T, st0T, sy0T, sx0T, by decide⟩, sT1 := ⟨sa1T, sg1T, st1T, sy1T, sx1T, by decide⟩,
    a_is_number := f_is_number, d_is_number := _, F_is_number := fun_mk l_is_number c_is_number k_is_number, g_is_number := PySem.W.mg_of X G a_is_number,
    a_tupled := f_tupled, d_tupled := _, F_tupled := fun_mk l_tupled c_tupled k_tupled, g_tupled := PySem.W.mg_of X G a_tupled,
    a_number_in := f_number_in, d_number_in := _, F_number_in := fun_mk l_number_in c_number_in k_number_in, g_number_in := PySem.W.mg_of X G a_number_in,
    a_run_text := f_run_text, d_run_text := _, F_run_text := fun_mk l_run_text c_run_text k_run_text, g_run_text := PySem.W.mg_of X G a_run_text,
    a_runs_text := f_runs_text, d_runs_text := _, F_runs_text := fun_mk l_runs_text c_runs_text k_runs_text, g_runs_text := PySem.W.mg_of X G a_runs_text,
    a_run_in := f_run_in, d_run_in := _, F_run_in := fun_mk l_run_in c_run_in k_run_in, g_run_in := PySem.W.mg_of X G a_run_in,
    a_runs_from := f_runs_from, d_runs_from := _, F_runs_from := fun_mk l_runs_from c_runs_from k_runs_from, g_runs_from := PySem.W.mg_of X G a_runs_from,
    a_joined_runs := f_joined_runs, d_joined_runs := _, F_joined_runs := fun_mk l_joined_runs c_joined_runs k_joined_runs, g_joined_runs := PySem.W.mg_of X G a_joined_runs,
    a_ends_of := f_ends_of, d_ends_of := _, F_ends_of := fun_mk l_ends_of c_ends_of k_ends_of, g_ends_of := PySem.W.mg_of X G a_ends_of,
    a_is_run := f_is_run, d_is_run := _, F_is_run := fun_mk l_is_run c_is_run k_is_run, g_is_run := PySem.W.mg_of X G a_is_run,
    a_is_runs := f_is_runs, d_is_runs := _, F_is_runs := fun_mk l_is_runs c_is_runs k_is_runs, g_is_runs := PySem.W.mg_of X G a_is_runs,
    a_T_runs := f_T_runs, d_T_runs := _, F_T_runs := fun_mk l_T_runs c_T_runs k_T_runs,
    p_T_runs := p_T_runs, pf_T_runs := ⟨pa_T_runs, pg_T_runs, pt_T_runs, _, pr_T_runs⟩,
    a_backwards := f_backwards, d_backwards := _, F_backwards := fun_mk l_backwards c_backwards k_backwards, g_backwards := PySem.W.mg_of X G a_backwards,
    a_swapped := f_swapped, d_swapped := _, F_swapped := fun_mk l_swapped c_swapped k_swapped, g_swapped := PySem.W.mg_of X G a_swapped,
    a_law_box := f_law_box, d_law_box := _, F_law_box := fun_mk l_law_box c_law_box k_law_box, g_law_box := PySem.W.mg_of X G a_law_box,
    a_law_take := f_law_take, d_law_take := _, F_law_take := fun_mk l_law_take c_law_take k_law_take, g_law_take := PySem.W.mg_of X G a_law_take,
    a_law_cells := f_law_cells, d_law_cells := _, F_law_cells := fun_mk l_law_cells c_law_cells k_law_cells, g_law_cells := PySem.W.mg_of X G a_law_cells,
    a_law_of := f_law_of, d_law_of := _, F_law_of := fun_mk l_law_of c_law_of k_law_of, g_law_of := PySem.W.mg_of X G a_law_of,
    a_law_same := f_law_same, d_law_same := _, F_law_same := fun_mk l_law_same c_law_same k_law_same, g_law_same := PySem.W.mg_of X G a_law_same,
    a_law_lists := f_law_lists, d_law_lists := _, F_law_lists := fun_mk l_law_lists c_law_lists k_law_lists, g_law_lists := PySem.W.mg_of X G a_law_lists,
    a_law_much := f_law_much, d_law_much := _, F_law_much := fun_mk l_law_much c_law_much k_law_much, g_law_much := PySem.W.mg_of X G a_law_much,
    a_law_bits := f_law_bits, d_law_bits := _, F_law_bits := fun_mk l_law_bits c_law_bits k_law_bits, g_law_bits := PySem.W.mg_of X G a_law_bits,
    a_law_joined := f_law_joined, d_law_joined := _, F_law_joined := fun_mk l_law_joined c_law_joined k_law_joined, g_law_joined := PySem.W.mg_of X G a_law_joined,
    a_T_size := f_T_size, d_T_size := _, F_T_size := fun_mk l_T_size c_T_size k_T_size,
    p_T_size := p_T_size, pf_T_size := ⟨pa_T_size, pg_T_size, pt_T_size, _, pr_T_size⟩,
    a_T_hers := f_T_hers, d_T_hers := _, F_T_hers := fun_mk l_T_hers c_T_hers k_T_hers,
    p_T_hers := p_T_hers, pf_T_hers := ⟨pa_T_hers, pg_T_hers, pt_T_hers, _, pr_T_hers⟩,
    a_T_his := f_T_his, d_T_his := _, F_T_his := fun_mk l_T_his c_T_his k_T_his,
    p_T_his := p_T_his, pf_T_his := ⟨pa_T_his, pg_T_his, pt_T_his, _, pr_T_his⟩,
    a_T_ends := f_T_ends, d_T_ends := _, F_T_ends := fun_mk l_T_ends c_T_ends k_T_ends,
    p_T_ends := p_T_ends, pf_T_ends := ⟨pa_T_ends, pg_T_ends, pt_T_ends, _, pr_T_ends⟩,
    mf_T_len := ⟨ma_T_len, mb_T_len, mc_T_len⟩,
    a_T_len := f_T_len, d_T_len := _, F_T_len := fun_mk l_T_len c_T_len k_T_len,
    a_law_shown := f_law_shown, d_law_shown := _, F_law_shown := fun_mk l_law_shown c_law_shown k_law_shown, g_law_shown := PySem.W.mg_of X G a_law_shown,
    a_law_kept := f_law_kept, d_law_kept := _, F_law_kept := fun_mk l_law_kept c_law_kept k_law_kept, g_law_kept := PySem.W.mg_of X G a_law_kept,
    a_law_due := f_law_due, d_law_due := _, F_law_due := fun_mk l_law_due c_law_due k_law_due, g_law_due := PySem.W.mg_of X G a_law_due,
    a_law_kinds_right := f_law_kinds_right, d_law_kinds_right := _, F_law_kinds_right := fun_mk l_law_kinds_right c_law_kinds_right k_law_kinds_right, g_law_kinds_right := PySem.W.mg_of X G a_law_kinds_right,
    mf_T_eq := ⟨ma_T_eq, mb_T_eq, mc_T_eq⟩,
    a_T_eq := f_T_eq, d_T_eq := _, F_T_eq := fun_mk l_T_eq c_T_eq k_T_eq,
    mf_T_add := ⟨ma_T_add, mb_T_add, mc_T_add⟩,
    a_T_add := f_T_add, d_T_add := _, F_T_add := fun_mk l_T_add c_T_add k_T_add,
    a_law_by_hand_right := f_law_by_hand_right, d_law_by_hand_right := _, F_law_by_hand_right := fun_mk l_law_by_hand_right c_law_by_hand_right k_law_by_hand_right, g_law_by_hand_right := PySem.W.mg_of X G a_law_by_hand_right,
    a_law_case_right := f_law_case_right, d_law_case_right := _, F_law_case_right := fun_mk l_law_case_right c_law_case_right k_law_case_right, g_law_case_right := PySem.W.mg_of X G a_law_case_right,
    a_law_right := f_law_right, d_law_right := _, F_law_right := fun_mk l_law_right c_law_right k_law_right, g_law_right := PySem.W.mg_of X G a_law_right,
    a_law := f_law, d_law := _, F_law := fun_mk l_law c_law k_law, g_law := PySem.W.mg_of X G a_law,
    fI_BadRun := fI_BadRun, fd_BadRun := _, E_BadRun := ⟨PySem.W.mg_of X G eg_BadRun, ⟨⟨_, _, _, _, _, _, _, _, _, _, _, _, _, _, _, el_BadRun, rfl⟩, esa_BadRun, eex_BadRun, ety_BadRun, ek_BadRun⟩, ei_BadRun, eti_BadRun, eno_BadRun, ega_BadRun, egg_BadRun, ehd_BadRun⟩, FI_BadRun := fun_mk eli_BadRun eci_BadRun eki_BadRun,
    fI_BadText := fI_BadText, fd_BadText := _, E_BadText := ⟨PySem.W.mg_of X G eg_BadText, ⟨⟨_, _, _, _, _, _, _, _, _, _, _, _, _, _, _, el_BadText, rfl⟩, esa_BadText, eex_BadText, ety_BadText, ek_BadText⟩, ei_BadText, eti_BadText, eno_BadText, ega_BadText, egg_BadText, ehd_BadText⟩, FI_BadText := fun_mk eli_BadText eci_BadText eki_BadText,
    fI_NoPlace := fI_NoPlace, fd_NoPlace := _, E_NoPlace := ⟨PySem.W.mg_of X G eg_NoPlace, ⟨⟨_, _, _, _, _, _, _, _, _, _, _, _, _, _, _, el_NoPlace, rfl⟩, esa_NoPlace, eex_NoPlace, ety_NoPlace, ek_NoPlace⟩, ei_NoPlace, eti_NoPlace, eno_NoPlace, ega_NoPlace, egg_NoPlace, ehd_NoPlace⟩, FI_NoPlace := fun_mk eli_NoPlace eci_NoPlace eki_NoPlace,
    ec_BadRun := ⟨ega_BadRun, egg_BadRun, eex_BadRun, ehd_BadRun, ka_BadRun, kn, kt, km_BadRun⟩,
    ec_BadText := ⟨ega_BadText, egg_BadText, eex_BadText, ehd_BadText, ka_BadText, kn, kt, km_BadText⟩,
    ec_NoPlace := ⟨ega_NoPlace, egg_NoPlace, eex_NoPlace, ehd_NoPlace, ka_NoPlace, kn, kt, km_NoPlace⟩,
    C_H := C_H, gH := PySem.W.mg_of X G gH,
    ki_BadRun_ValueError := kit_ty (by decide +kernel) ki_BadRun_ValueError,
    ki_BadText_ValueError := kit_ty (by decide +kernel) ki_BadText_ValueError,
    ki_NoPlace_ValueError := kit_ty (by decide +kernel) ki_NoPlace_ValueError,
    ki_BadRun_HeirError := kit_ref2 hHd hHt su_H_H su_BadRun_H,
    ki_BadText_HeirError := kit_ref2 hHd hHt su_H_H su_BadText_H,
    ki_NoPlace_HeirError := kit_ref2 hHd hHt su_H_H su_NoPlace_H,
    ex_BadRun_BadRun := PySem.W.exm_ref eex_BadRun ehd_BadRun ety_BadRun su_BadRun_BadRun,
    ex_BadText_BadRun := PySem.W.exm_ref eex_BadRun ehd_BadRun ety_BadRun su_BadText_BadRun,
    ex_NoPlace_BadRun := PySem.W.exm_ref eex_BadRun ehd_BadRun ety_BadRun su_NoPlace_BadRun,
    z_ValueError := PySem.W.mg_none_of X G z_ValueError,
    z_abs := PySem.W.mg_none_of X G z_abs,
    z_all := PySem.W.mg_none_of X G z_all,
    z_bool := PySem.W.mg_none_of X G z_bool,
    z_enumerate := PySem.W.mg_none_of X G z_enumerate,
    z_int := PySem.W.mg_none_of X G z_int,
    z_isinstance := PySem.W.mg_none_of X G z_isinstance,
    z_len := PySem.W.mg_none_of X G z_len,
    z_list := PySem.W.mg_none_of X G z_list,
    z_range := PySem.W.mg_none_of X G z_range,
    z_str := PySem.W.mg_none_of X G z_str,
    z_sum := PySem.W.mg_none_of X G z_sum,
    z_tuple := PySem.W.mg_none_of X G z_tuple,
    z_zip := PySem.W.mg_none_of X G z_zip,
    c_DIGITS := ⟨_, PySem.W.mg_of X G q_DIGITS⟩,
    c_BLANK := ⟨_, PySem.W.mg_of X G q_BLANK⟩,
    c_BETWEEN := ⟨_, PySem.W.mg_of X G q_BETWEEN⟩,
    c_NOTHING := ⟨_, PySem.W.mg_of X G q_NOTHING⟩,
    c_PAIR_texts := ⟨_, PySem.W.mg_of X G q_PAIR_texts⟩,
    c_HEIRS_texts := ⟨_, _, _, _, PySem.W.mg_of X G q_HEIRS_texts, lt_HEIRS_texts, rfl, rfl, by rw [sizeLine_eq]; show 2 ≤ _; decide, .cons ⟨_, rfl⟩ (.cons ⟨_, rfl⟩ (.nil))⟩,
    c_PAIR_turns := ⟨_, PySem.W.mg_of X G q_PAIR_turns⟩,
    c_HEIRS_turns := ⟨_, _, _, _, PySem.W.mg_of X G q_HEIRS_turns, lt_HEIRS_turns, rfl, rfl, by rw [sizeLine_eq]; show 2 ≤ _; decide, .cons ⟨_, rfl⟩ (.cons ⟨_, rfl⟩ (.nil))⟩ }
theorem fin {P : Program} {w : World} {K : PySem.W.Frag} {mg : Str → Option Value} {T : Tb} {fa : Addr} (tx : Tx K mg T) (h0 : T 91 = 0) (hfa : mg "law" = some (.ref fa)) :
    ∃ fd : FuncData, (∀ (s : Shared) (v : Value), BindsTo s fd ⟨[v], []⟩ [("_law_script", v)]) ∧ ∀ base : Heap, K.In base → base.Ns mainGlobals mg → FnOk P w K mg base (L2.CX P w) 16 fa fd ["_law_script"] (spA K 1 f_law) := by
  have e := hfa.symm.trans tx.g_law
  cases e
  refine ⟨tx.d_law, fun s v => ?_, fun base _ _ => (ok_law tx).imp fun _ _ _ _ q => q T h0⟩
  obtain ⟨oc, od, kV, doc, pm, an, cdv, ct, osl, e, lk, hcd⟩ := tx.F_law.ex
  rw [e]
  exact .of_eq rfl
end Lw
namespace Lw
open PySem Lq
local macro_rules | `(tactic| sizeOf_list_dec) => `(tactic| first | omega | (simp only [List.length_append, List.length_map, List.length_cons, List.length_nil, List.length_take, List.length_drop, List.length_reverse, List.length_set, List.length_replicate, List.length_singleton, List.length_range]; omega) | (simp; omega))
local macro_rules | `(tactic| array_get_dec) => `(tactic| repeat' first
  | with_reducible assumption
  | (with_reducible exact ev_const) | (with_reducible exact ev_nilA) | (with_reducible exact ev_nilM) | (with_reducible exact ev_noPart) | (with_reducible exact ev_dfA) | (with_reducible exact ev_mk0)
  | ((with_reducible apply ev_name); (exact rfl)) | ((with_reducible apply ev_nameM); (exact rfl)) | ((with_reducible apply ev_nameB); (exact rfl))
  | (with_reducible apply ev_consA) | (with_reducible apply ev_op2) | (with_reducible apply ev_op1) | (with_reducible apply ev_opN) | (with_reducible apply ev_call) | (with_reducible apply ev_val) | (with_reducible apply ev_notT)
  | ((with_reducible apply ev_and1); (focus ((array_get_dec; done))); (focus ((first | (with_reducible rfl) | (with_reducible assumption) | exact Bool.not_true | exact Bool.not_false | exact decide_eq_true (by first | (with_reducible assumption) | omega) | exact decide_eq_false (by first | (with_reducible assumption) | omega) | exact nd_t (by first | (with_reducible assumption) | omega) | exact nd_f (by first | (with_reducible assumption) | omega) | exact nb_t (by first | (with_reducible assumption) | omega) | exact nb_f (by first | (with_reducible assumption) | omega) | (simp only [decide_true, decide_false, Bool.not_true, Bool.not_false, Bool.true_and, Bool.and_true, Bool.false_and, Bool.and_false, Bool.or_true, Bool.true_or, Bool.or_false, Bool.false_or]; done))))) | ((with_reducible apply ev_and2); (focus ((array_get_dec; done))); (focus ((first | (with_reducible rfl) | (with_reducible assumption) | exact Bool.not_true | exact Bool.not_false | exact decide_eq_true (by first | (with_reducible assumption) | omega) | exact decide_eq_false (by first | (with_reducible assumption) | omega) | exact nd_t (by first | (with_reducible assumption) | omega) | exact nd_f (by first | (with_reducible assumption) | omega) | exact nb_t (by first | (with_reducible assumption) | omega) | exact nb_f (by first | (with_reducible assumption) | omega) | (simp only [decide_true, decide_false, Bool.not_true, Bool.not_false, Bool.true_and, Bool.and_true, Bool.false_and, Bool.and_false, Bool.or_true, Bool.true_or, Bool.or_false, Bool.false_or]; done))))) | ((with_reducible apply ev_or1); (focus ((array_get_dec; done))); (focus ((first | (with_reducible rfl) | (with_reducible assumption) | exact Bool.not_true | exact Bool.not_false | exact decide_eq_true (by first | (with_reducible assumption) | omega) | exact decide_eq_false (by first | (with_reducible assumption) | omega) | exact nd_t (by first | (with_reducible assumption) | omega) | exact nd_f (by first | (with_reducible assumption) | omega) | exact nb_t (by first | (with_reducible assumption) | omega) | exact nb_f (by first | (with_reducible assumption) | omega) | (simp only [decide_true, decide_false, Bool.not_true, Bool.not_false, Bool.true_and, Bool.and_true, Bool.false_and, Bool.and_false, Bool.or_true, Bool.true_or, Bool.or_false, Bool.false_or]; done))))) | ((with_reducible apply ev_or2); (focus ((array_get_dec; done))); (focus ((first | (with_reducible rfl) | (with_reducible assumption) | exact Bool.not_true | exact Bool.not_false | exact decide_eq_true (by first | (with_reducible assumption) | omega) | exact decide_eq_false (by first | (with_reducible assumption) | omega) | exact nd_t (by first | (with_reducible assumption) | omega) | exact nd_f (by first | (with_reducible assumption) | omega) | exact nb_t (by first | (with_reducible assumption) | omega) | exact nb_f (by first | (with_reducible assumption) | omega) | (simp only [decide_true, decide_false, Bool.not_true, Bool.not_false, Bool.true_and, Bool.and_true, Bool.false_and, Bool.and_false, Bool.or_true, Bool.true_or, Bool.or_false, Bool.false_or]; done))))) | ((with_reducible apply ev_ifE1); (focus ((array_get_dec; done))); (focus ((first | (with_reducible rfl) | (with_reducible assumption) | exact Bool.not_true | exact Bool.not_false | exact decide_eq_true (by first | (with_reducible assumption) | omega) | exact decide_eq_false (by first | (with_reducible assumption) | omega) | exact nd_t (by first | (with_reducible assumption) | omega) | exact nd_f (by first | (with_reducible assumption) | omega) | exact nb_t (by first | (with_reducible assumption) | omega) | exact nb_f (by first | (with_reducible assumption) | omega) | (simp only [decide_true, decide_false, Bool.not_true, Bool.not_false, Bool.true_and, Bool.and_true, Bool.false_and, Bool.and_false, Bool.or_true, Bool.true_or, Bool.or_false, Bool.false_or]; done))))) | ((with_reducible apply ev_ifE2); (focus ((array_get_dec; done))); (focus ((first | (with_reducible rfl) | (with_reducible assumption) | exact Bool.not_true | exact Bool.not_false | exact decide_eq_true (by first | (with_reducible assumption) | omega) | exact decide_eq_false (by first | (with_reducible assumption) | omega) | exact nd_t (by first | (with_reducible assumption) | omega) | exact nd_f (by first | (with_reducible assumption) | omega) | exact nb_t (by first | (with_reducible assumption) | omega) | exact nb_f (by first | (with_reducible assumption) | omega) | (simp only [decide_true, decide_false, Bool.not_true, Bool.not_false, Bool.true_and, Bool.and_true, Bool.false_and, Bool.and_false, Bool.or_true, Bool.true_or, Bool.or_false, Bool.false_or]; done))))) | ((with_reducible apply ev_ifF1); (focus ((array_get_dec; done))); (focus ((first | (with_reducible rfl) | (with_reducible assumption) | exact Bool.not_true | exact Bool.not_false | exact decide_eq_true (by first | (with_reducible assumption) | omega) | exact decide_eq_false (by first | (with_reducible assumption) | omega) | exact nd_t (by first | (with_reducible assumption) | omega) | exact nd_f (by first | (with_reducible assumption) | omega) | exact nb_t (by first | (with_reducible assumption) | omega) | exact nb_f (by first | (with_reducible assumption) | omega) | (simp only [decide_true, decide_false, Bool.not_true, Bool.not_false, Bool.true_and, Bool.and_true, Bool.false_and, Bool.and_false, Bool.or_true, Bool.true_or, Bool.or_false, Bool.false_or]; done))))) | ((with_reducible apply ev_ifF2); (focus ((array_get_dec; done))); (focus ((first | (with_reducible rfl) | (with_reducible assumption) | exact Bool.not_true | exact Bool.not_false | exact decide_eq_true (by first | (with_reducible assumption) | omega) | exact decide_eq_false (by first | (with_reducible assumption) | omega) | exact nd_t (by first | (with_reducible assumption) | omega) | exact nd_f (by first | (with_reducible assumption) | omega) | exact nb_t (by first | (with_reducible assumption) | omega) | exact nb_f (by first | (with_reducible assumption) | omega) | (simp only [decide_true, decide_false, Bool.not_true, Bool.not_false, Bool.true_and, Bool.and_true, Bool.false_and, Bool.and_false, Bool.or_true, Bool.true_or, Bool.or_false, Bool.false_or]; done)))))
  | (with_reducible apply ev_and) | (with_reducible apply ev_or) | (with_reducible apply ev_frz) | (with_reducible apply ev_tup) | (with_reducible apply ev_lst) | (with_reducible apply ev_opNF) | (with_reducible apply ev_op2F) | (with_reducible apply ev_callB) | (with_reducible apply ev_starA) | (with_reducible apply ev_permA) | (with_reducible apply ev_app) | (with_reducible apply ev_ext) | (with_reducible apply ev_pop) | (with_reducible apply ev_rem) | (with_reducible apply ev_aPart) | (with_reducible apply ev_sl) | (with_reducible apply ev_ixT) | (with_reducible apply ev_andE) | (with_reducible apply ev_orE) | (with_reducible apply ev_notE) | (with_reducible apply ev_ifE) | (with_reducible apply ev_consMd) | (with_reducible apply ev_consMf) | (with_reducible apply ev_rng1) | (with_reducible apply ev_seqI) | (with_reducible apply ev_lrg1) | (with_reducible apply ev_lrg2) | (with_reducible apply ev_lzip) | (with_reducible apply ev_mk) | (with_reducible apply ev_strM) | (with_reducible apply ev_lstM)
  | (with_reducible apply dv_addL) | (with_reducible apply dv_addT) | (with_reducible apply dv_cat)
  | (with_reducible exact dv_eqI _ _) | (with_reducible exact dv_neI _ _) | (with_reducible exact dv_eqS _ _) | (with_reducible exact dv_neS _ _)
  | ((with_reducible show eqD _ _ = some _); exact dv_eqS _ _) | ((with_reducible show neD _ _ = some _); exact dv_neS _ _)
  | (with_reducible exact datAll_dsA _ _ _ (by rfl)) | (with_reducible exact datAll_ds _)
  | ((with_reducible show _ ≤ _); sizeOf_list_dec) | ((with_reducible show _ < _); sizeOf_list_dec)
  | ((with_reducible show (_ : Rho) = _); first | (dsimp only [List.set]; done) | exact rfl)
  | ((with_reducible show (_ : Nat) = _); exact rfl)
  | exact (rfl : _ = some _) | exact (rfl : _ = true) | exact (rfl : _ = false)
  | (intro _))
local macro_rules | `(tactic| array_mem_dec) => `(tactic| repeat' first
  | with_reducible assumption
  | (with_reducible exact ev_next) | (with_reducible exact ev_raise0)
  | ((with_reducible apply ev_seqN); (focus (first | ((with_reducible apply ev_asg); (array_get_dec; done)) | ((with_reducible apply ev_asgM); (array_get_dec; done)) | ((with_reducible apply ev_par); (array_get_dec; done)) | ((with_reducible apply ev_drop); (array_get_dec; done)) | ((with_reducible apply ev_aug); (array_get_dec; done)) | ((with_reducible apply ev_put); (array_get_dec; done)) | (with_reducible assumption) | ((with_reducible apply ev_ifS2); (focus ((array_get_dec; done))); (focus ((first | (with_reducible rfl) | (with_reducible assumption) | exact Bool.not_true | exact Bool.not_false | exact decide_eq_true (by first | (with_reducible assumption) | omega) | exact decide_eq_false (by first | (with_reducible assumption) | omega) | exact nd_t (by first | (with_reducible assumption) | omega) | exact nd_f (by first | (with_reducible assumption) | omega) | exact nb_t (by first | (with_reducible assumption) | omega) | exact nb_f (by first | (with_reducible assumption) | omega) | (simp only [decide_true, decide_false, Bool.not_true, Bool.not_false, Bool.true_and, Bool.and_true, Bool.false_and, Bool.and_false, Bool.or_true, Bool.true_or, Bool.or_false, Bool.false_or]; done)))); exact ev_next))); (focus (first | (dsimp only [List.set, setsR]; done) | exact rfl)))
  | ((with_reducible apply ev_seqR); (focus ((with_reducible apply ev_ifS1); (focus ((array_get_dec; done))); (focus ((first | (with_reducible rfl) | (with_reducible assumption) | exact Bool.not_true | exact Bool.not_false | exact decide_eq_true (by first | (with_reducible assumption) | omega) | exact decide_eq_false (by first | (with_reducible assumption) | omega) | exact nd_t (by first | (with_reducible assumption) | omega) | exact nd_f (by first | (with_reducible assumption) | omega) | exact nb_t (by first | (with_reducible assumption) | omega) | exact nb_f (by first | (with_reducible assumption) | omega) | (simp only [decide_true, decide_false, Bool.not_true, Bool.not_false, Bool.true_and, Bool.and_true, Bool.false_and, Bool.and_false, Bool.or_true, Bool.true_or, Bool.or_false, Bool.false_or]; done)))); ((with_reducible apply ev_ret); (array_get_dec; done)))))
  | ((with_reducible apply ev_seqX); (focus ((with_reducible apply ev_ifS1); (focus ((array_get_dec; done))); (focus ((first | (with_reducible rfl) | (with_reducible assumption) | exact Bool.not_true | exact Bool.not_false | exact decide_eq_true (by first | (with_reducible assumption) | omega) | exact decide_eq_false (by first | (with_reducible assumption) | omega) | exact nd_t (by first | (with_reducible assumption) | omega) | exact nd_f (by first | (with_reducible assumption) | omega) | exact nb_t (by first | (with_reducible assumption) | omega) | exact nb_f (by first | (with_reducible assumption) | omega) | (simp only [decide_true, decide_false, Bool.not_true, Bool.not_false, Bool.true_and, Bool.and_true, Bool.false_and, Bool.and_false, Bool.or_true, Bool.true_or, Bool.or_false, Bool.false_or]; done)))); (first | exact ev_raise0 | ((with_reducible apply ev_raise); (array_get_dec; done))))))
  | ((with_reducible apply ev_seqN); (focus ((with_reducible apply ev_ifS1); (focus ((array_get_dec; done))); (focus ((first | (with_reducible rfl) | (with_reducible assumption) | exact Bool.not_true | exact Bool.not_false | exact decide_eq_true (by first | (with_reducible assumption) | omega) | exact decide_eq_false (by first | (with_reducible assumption) | omega) | exact nd_t (by first | (with_reducible assumption) | omega) | exact nd_f (by first | (with_reducible assumption) | omega) | exact nb_t (by first | (with_reducible assumption) | omega) | exact nb_f (by first | (with_reducible assumption) | omega) | (simp only [decide_true, decide_false, Bool.not_true, Bool.not_false, Bool.true_and, Bool.and_true, Bool.false_and, Bool.and_false, Bool.or_true, Bool.true_or, Bool.or_false, Bool.false_or]; done)))); (array_mem_dec; done))); (focus (first | (dsimp only [List.set, setsR]; done) | exact rfl)))
  | ((with_reducible apply ev_ifS1); (focus ((array_get_dec; done))); (focus ((first | (with_reducible rfl) | (with_reducible assumption) | exact Bool.not_true | exact Bool.not_false | exact decide_eq_true (by first | (with_reducible assumption) | omega) | exact decide_eq_false (by first | (with_reducible assumption) | omega) | exact nd_t (by first | (with_reducible assumption) | omega) | exact nd_f (by first | (with_reducible assumption) | omega) | exact nb_t (by first | (with_reducible assumption) | omega) | exact nb_f (by first | (with_reducible assumption) | omega) | (simp only [decide_true, decide_false, Bool.not_true, Bool.not_false, Bool.true_and, Bool.and_true, Bool.false_and, Bool.and_false, Bool.or_true, Bool.true_or, Bool.or_false, Bool.false_or]; done))))) | ((with_reducible apply ev_ifS2); (focus ((array_get_dec; done))); (focus ((first | (with_reducible rfl) | (with_reducible assumption) | exact Bool.not_true | exact Bool.not_false | exact decide_eq_true (by first | (with_reducible assumption) | omega) | exact decide_eq_false (by first | (with_reducible assumption) | omega) | exact nd_t (by first | (with_reducible assumption) | omega) | exact nd_f (by first | (with_reducible assumption) | omega) | exact nb_t (by first | (with_reducible assumption) | omega) | exact nb_f (by first | (with_reducible assumption) | omega) | (simp only [decide_true, decide_false, Bool.not_true, Bool.not_false, Bool.true_and, Bool.and_true, Bool.false_and, Bool.and_false, Bool.or_true, Bool.true_or, Bool.or_false, Bool.false_or]; done)))))
  | ((with_reducible apply ev_ret); (array_get_dec; done)) | ((with_reducible apply ev_retF); (array_get_dec; done)) | ((with_reducible apply ev_asg); (array_get_dec; done)) | ((with_reducible apply ev_asgM); (array_get_dec; done)) | ((with_reducible apply ev_par); (array_get_dec; done)) | ((with_reducible apply ev_drop); (array_get_dec; done)) | ((with_reducible apply ev_aug); (array_get_dec; done)) | ((with_reducible apply ev_put); (array_get_dec; done)) | ((with_reducible apply ev_raise); (array_get_dec; done)))
section
/-! ### the box of draws, the cells of the script -/
theorem take_pos {b0 b1 b2 n : Int} (h : 0 < b0) (h1 : 0 < n) (h2 : n < 1073741824) : f_law_take [b0, b1, b2] [.int n] = some (.int (b0 % n), [b0 / n, b1, b2]) := by
  simp [f_law_take, m_law_take, Lq.runF, Lq.runB, Lq.runL, Lq.boxAt, Lq.startR, Lq.seqS, Lq.nextS, Lq.ifS, Lq.asgS, Lq.asgM, Lq.asgG, Lq.retS, Lq.retF, Lq.dropS, Lq.forS, Lq.loopS, Lq.turnS, Lq.putItem, Lq.isMB, Lq.putS1, Lq.parS, Lq.consMd, Lq.consMf', Lq.noErr, Lq.nilM, Lq.setsR, Lq.nameE, Lq.constE, Lq.op1E, Lq.op2E, Lq.opNE, Lq.opNF, Lq.op2F, Lq.lift1, Lq.lift2, Lq.liftN, Lq.res, Lq.resAll, Lq.valT, Lq.notT, Lq.andT, Lq.orT, Lq.andE, Lq.orE, Lq.notE, Lq.ifE, Lq.consA, Lq.nilA, Lq.frzE, Lq.lstF, Lq.tupE, Lq.callE, Lq.callBE, Lq.callL, Lq.callNew, Lq.slotted, Lq.datAll, Lq.appE, Lq.popE, Lq.compF, Lq.compLoop, Lq.compTurn, Lq.yesT, Lq.wipeR, Lq.backR, Lq.plainC, Lq.nameG, Lq.tupG, Lq.consG, Lq.nilG, Lq.seqI, Lq.rngI1, Lq.rngI2, Lq.enumI, Lq.zipI, Lq.isiE, Lq.slE, Lq.aPart, Lq.noPart, Lq.chainE, Lq.strM, Lq.orF, Lq.R.bind, Lq.R.thnO, Lq.raiseS, Lq.raise0S, Lq.tryS, Lq.hNil, Lq.hAs, Lq.goneS, Lq.enumA, Lq.enumK, Lq.ifF, Lq.permA, Lq.permL, Lq.D.noL, Lq.noLs, Lq.isEx, Lq.fldD, Lq.isErrD, Lq.itemsOf, Lq.onlyB, Lq.isB, Lq.D.flat, Lq.starA, Lq.extE, Lq.augS, Lq.ixTE, Lq.mvS, Lq.dfA, Lq.slotD, Lq.propD, Lq.mkE, Lq.mkE0, Lq.callNewN, Lq.isErrND, Lq.callME, Lq.isBD, Lq.addD, Lq.catF, Lq.subD, Lq.mulD, Lq.fdivD, Lq.modD, Lq.powD, Lq.negD, Lq.ltD, Lq.leD, Lq.gtD, Lq.geD, Lq.eqD, Lq.neD, Lq.sameKind, Lq.isD, Lq.isntD, Lq.isNon, Lq.inD, Lq.ninD, Lq.anyEq, Lq.lenD, Lq.atD, Lq.cutD, Lq.revD, Lq.splitD, Lq.joinD, Lq.tupleD, Lq.tupleTD, Lq.listF, Lq.allD, Lq.anyD, Lq.sumD, Lq.absD, Lq.min2D, Lq.max2D, Lq.intD, Lq.strD, Lq.sortedF, Lq.isiB, Lq.tyName, Lq.notObj, Lq.D.items?, Lq.fits, L2.atI, L2.ixN, h, h1, h2]
theorem take_zero {b1 b2 n : Int} (h1 : 0 < n) (h3 : 0 ≤ b2) (h4 : b2 < 1000000000000) : f_law_take [0, b1, b2] [.int n] = some (.int (drawn b1 b2 n), [0, b1, b2 + 1]) := by
  have e1 : big (39373 + (b2 + 1)) = true := big_of (by omega) (by omega)
  have e2 : big 48271 = true := by decide
  have e3 : ∀ z : Int, big (z % 40009 + 7) = true := fun z => big_of (by omega) (by omega)
  simp [f_law_take, m_law_take, Lq.runF, Lq.runB, Lq.runL, Lq.boxAt, Lq.startR, Lq.seqS, Lq.nextS, Lq.ifS, Lq.asgS, Lq.asgM, Lq.asgG, Lq.retS, Lq.retF, Lq.dropS, Lq.forS, Lq.loopS, Lq.turnS, Lq.putItem, Lq.isMB, Lq.putS1, Lq.parS, Lq.consMd, Lq.consMf', Lq.noErr, Lq.nilM, Lq.setsR, Lq.nameE, Lq.constE, Lq.op1E, Lq.op2E, Lq.opNE, Lq.opNF, Lq.op2F, Lq.lift1, Lq.lift2, Lq.liftN, Lq.res, Lq.resAll, Lq.valT, Lq.notT, Lq.andT, Lq.orT, Lq.andE, Lq.orE, Lq.notE, Lq.ifE, Lq.consA, Lq.nilA, Lq.frzE, Lq.lstF, Lq.tupE, Lq.callE, Lq.callBE, Lq.callL, Lq.callNew, Lq.slotted, Lq.datAll, Lq.appE, Lq.popE, Lq.compF, Lq.compLoop, Lq.compTurn, Lq.yesT, Lq.wipeR, Lq.backR, Lq.plainC, Lq.nameG, Lq.tupG, Lq.consG, Lq.nilG, Lq.seqI, Lq.rngI1, Lq.rngI2, Lq.enumI, Lq.zipI, Lq.isiE, Lq.slE, Lq.aPart, Lq.noPart, Lq.chainE, Lq.strM, Lq.orF, Lq.R.bind, Lq.R.thnO, Lq.raiseS, Lq.raise0S, Lq.tryS, Lq.hNil, Lq.hAs, Lq.goneS, Lq.enumA, Lq.enumK, Lq.ifF, Lq.permA, Lq.permL, Lq.D.noL, Lq.noLs, Lq.isEx, Lq.fldD, Lq.isErrD, Lq.itemsOf, Lq.onlyB, Lq.isB, Lq.D.flat, Lq.starA, Lq.extE, Lq.augS, Lq.ixTE, Lq.mvS, Lq.dfA, Lq.slotD, Lq.propD, Lq.mkE, Lq.mkE0, Lq.callNewN, Lq.isErrND, Lq.callME, Lq.isBD, Lq.addD, Lq.catF, Lq.subD, Lq.mulD, Lq.fdivD, Lq.modD, Lq.powD, Lq.negD, Lq.ltD, Lq.leD, Lq.gtD, Lq.geD, Lq.eqD, Lq.neD, Lq.sameKind, Lq.isD, Lq.isntD, Lq.isNon, Lq.inD, Lq.ninD, Lq.anyEq, Lq.lenD, Lq.atD, Lq.cutD, Lq.revD, Lq.splitD, Lq.joinD, Lq.tupleD, Lq.tupleTD, Lq.listF, Lq.allD, Lq.anyD, Lq.sumD, Lq.absD, Lq.min2D, Lq.max2D, Lq.intD, Lq.strD, Lq.sortedF, Lq.isiB, Lq.tyName, Lq.notObj, Lq.D.items?, Lq.fits, L2.atI, L2.ixN, h1, e1, e2, e3, drawn]
theorem take_ok {k : Nat} {ns : List Int} {n : Int} (hb : Bx k ns) (h1 : 0 < n) (h2 : n < 1073741824) (hk : k < 1000000000000) : ∃ r ns', f_law_take ns [.int n] = some (.int r, ns') ∧ 0 ≤ r ∧ r < n ∧ Bx (k + 1) ns' := by
  obtain ⟨b0, b1, b2, rfl, g1, g2, g3, g4, g5⟩ := hb
  by_cases h : 0 < b0
  · exact ⟨_, _, take_pos h h1 h2, Int.emod_nonneg _ (by omega), Int.emod_lt_of_pos _ h1, ⟨_, _, _, rfl, Int.ediv_nonneg (by omega) (by omega), g2, g3, g4, by omega⟩⟩
  · have e : b0 = 0 := by omega
    subst e
    exact ⟨_, _, take_zero h1 g4 (by omega), Int.emod_nonneg _ (by omega), Int.emod_lt_of_pos _ h1, ⟨_, _, _, rfl, by omega, g2, g3, by omega, by omega⟩⟩
theorem box_ok {ms : List Int} {k : Nat} (hk : k < ms.length) (h3 : ms.length ≤ 3) : ∃ b0 b1, f_law_box [.lst (ms.map D.int), .int k] = some [.int b0, .int b1, .int 0] ∧ Bx 0 [b0, b1, 0] := by
  have e2 : ∀ a : Int, big (if 1000000000000000000 ≤ a then 1 else 0) = true := fun a => by split <;> decide
  have e3 : big 39373 = true := by decide
  have hg : (ms.map D.int)[k]? = some (.int ms[k]) := by rw [List.getElem?_map, List.getElem?_eq_getElem hk]; rfl
  refine ⟨(if ms[k] < 0 then -ms[k] else ms[k]) * (if decide (1000000000000000000 ≤ (if ms[k] < 0 then -ms[k] else ms[k])) = true then 1 else 0), ms[k] % 2305843009213693951 + 39373 * (k : Int) + 83007, ?_, ⟨_, _, _, rfl, ?_, ?_, ?_, ?_, ?_⟩⟩
  · simp [f_law_box, m_law_box, Lq.runF, Lq.runB, Lq.runL, Lq.boxAt, Lq.startR, Lq.seqS, Lq.nextS, Lq.ifS, Lq.asgS, Lq.asgM, Lq.asgG, Lq.retS, Lq.retF, Lq.dropS, Lq.forS, Lq.loopS, Lq.turnS, Lq.putItem, Lq.isMB, Lq.putS1, Lq.parS, Lq.consMd, Lq.consMf', Lq.noErr, Lq.nilM, Lq.setsR, Lq.nameE, Lq.constE, Lq.op1E, Lq.op2E, Lq.opNE, Lq.opNF, Lq.op2F, Lq.lift1, Lq.lift2, Lq.liftN, Lq.res, Lq.resAll, Lq.valT, Lq.notT, Lq.andT, Lq.orT, Lq.andE, Lq.orE, Lq.notE, Lq.ifE, Lq.consA, Lq.nilA, Lq.frzE, Lq.lstF, Lq.tupE, Lq.callE, Lq.callBE, Lq.callL, Lq.callNew, Lq.slotted, Lq.datAll, Lq.appE, Lq.popE, Lq.compF, Lq.compLoop, Lq.compTurn, Lq.yesT, Lq.wipeR, Lq.backR, Lq.plainC, Lq.nameG, Lq.tupG, Lq.consG, Lq.nilG, Lq.seqI, Lq.rngI1, Lq.rngI2, Lq.enumI, Lq.zipI, Lq.isiE, Lq.slE, Lq.aPart, Lq.noPart, Lq.chainE, Lq.strM, Lq.orF, Lq.R.bind, Lq.R.thnO, Lq.raiseS, Lq.raise0S, Lq.tryS, Lq.hNil, Lq.hAs, Lq.goneS, Lq.enumA, Lq.enumK, Lq.ifF, Lq.permA, Lq.permL, Lq.D.noL, Lq.noLs, Lq.isEx, Lq.fldD, Lq.isErrD, Lq.itemsOf, Lq.onlyB, Lq.isB, Lq.D.flat, Lq.starA, Lq.extE, Lq.augS, Lq.ixTE, Lq.mvS, Lq.dfA, Lq.slotD, Lq.propD, Lq.mkE, Lq.mkE0, Lq.callNewN, Lq.isErrND, Lq.callME, Lq.isBD, Lq.addD, Lq.catF, Lq.subD, Lq.mulD, Lq.fdivD, Lq.modD, Lq.powD, Lq.negD, Lq.ltD, Lq.leD, Lq.gtD, Lq.geD, Lq.eqD, Lq.neD, Lq.sameKind, Lq.isD, Lq.isntD, Lq.isNon, Lq.inD, Lq.ninD, Lq.anyEq, Lq.lenD, Lq.atD, Lq.cutD, Lq.revD, Lq.splitD, Lq.joinD, Lq.tupleD, Lq.tupleTD, Lq.listF, Lq.allD, Lq.anyD, Lq.sumD, Lq.absD, Lq.min2D, Lq.max2D, Lq.intD, Lq.strD, Lq.sortedF, Lq.isiB, Lq.tyName, Lq.notObj, Lq.D.items?, Lq.fits, L2.atI, L2.ixN, e2, e3, hk, hg]
  · exact Int.mul_nonneg (by split <;> omega) ((fun b : Bool => (by cases b <;> decide : (0 : Int) ≤ if b = true then 1 else 0)) _)
  · have := Int.emod_nonneg ms[k] (show (2305843009213693951 : Int) ≠ 0 by decide); omega
  · have := Int.emod_lt_of_pos ms[k] (show (0 : Int) < 2305843009213693951 by decide); omega
  · omega
  · omega
theorem cells_loop {ns : List Int} : ∀ (xs : List Int) (i : Nat) (ms : List Int) (c3 c4 c5 : Cell), ms.length = 3 → i + xs.length ≤ 63 → ∃ (ms' : List Int) (c3' c4' c5' : Cell), ms'.length = 3 ∧
    loopS (turnS m_law_cells_g1 m_law_cells_b1) (((xs.map D.int).zipIdx i).map fun p => D.tup [.int (p.2 : Nat), p.1]) [.d (.scr ns), .d (.int 3), .m (ms.map D.int), c3, c4, c5] = .nx [.d (.scr ns), .d (.int 3), .m (ms'.map D.int), c3', c4', c5']
  | [], i, ms, c3, c4, c5, h, _ => ⟨ms, c3, c4, c5, h, by simp [loopS]⟩
  | x :: xs, i, ms, c3, c4, c5, h, hl => by
    rw [List.length_cons] at hl
    have hj : ((i : Int) % 3).toNat < ms.length := by omega
    have hj0 : 0 ≤ (i : Int) % 3 := Int.emod_nonneg _ (by decide)
    have hj1 : (i : Int) % 3 < 3 := Int.emod_lt_of_pos _ (by decide)
    have hg : (ms.map D.int)[((i : Int) % 3).toNat]? = some (.int ms[((i : Int) % 3).toNat]) := by rw [List.getElem?_map, List.getElem?_eq_getElem hj]; rfl
    obtain ⟨ms', a3, a4, a5, hm, e⟩ := cells_loop xs (i + 1) (ms.set ((i : Int) % 3).toNat (ms[((i : Int) % 3).toNat] + x * ((i : Int) + 2))) (.d (.int i)) (.d (.int x)) (.d (.int ((i : Int) % 3))) (by rw [List.length_set]; exact h) (by omega)
    refine ⟨ms', a3, a4, a5, hm, ?_⟩
    rw [List.map_cons, List.zipIdx_cons, List.map_cons, loopS]
    have eb : turnS m_law_cells_g1 m_law_cells_b1 (D.tup [.int (i : Nat), .int x]) [.d (.scr ns), .d (.int 3), .m (ms.map D.int), c3, c4, c5] = .nx [.d (.scr ns), .d (.int 3), .m ((ms.set ((i : Int) % 3).toNat (ms[((i : Int) % 3).toNat] + x * ((i : Int) + 2))).map D.int), .d (.int i), .d (.int x), .d (.int ((i : Int) % 3))] := by
      have hb : big ((i : Int) + 2) = true := big_of (by omega) (by omega)
      simp [m_law_cells_g1, m_law_cells_b1, Lq.runF, Lq.runB, Lq.runL, Lq.boxAt, Lq.startR, Lq.seqS, Lq.nextS, Lq.ifS, Lq.asgS, Lq.asgM, Lq.asgG, Lq.retS, Lq.retF, Lq.dropS, Lq.forS, Lq.loopS, Lq.turnS, Lq.putItem, Lq.isMB, Lq.putS1, Lq.parS, Lq.consMd, Lq.consMf', Lq.noErr, Lq.nilM, Lq.setsR, Lq.nameE, Lq.constE, Lq.op1E, Lq.op2E, Lq.opNE, Lq.opNF, Lq.op2F, Lq.lift1, Lq.lift2, Lq.liftN, Lq.res, Lq.resAll, Lq.valT, Lq.notT, Lq.andT, Lq.orT, Lq.andE, Lq.orE, Lq.notE, Lq.ifE, Lq.consA, Lq.nilA, Lq.frzE, Lq.lstF, Lq.tupE, Lq.callE, Lq.callBE, Lq.callL, Lq.callNew, Lq.slotted, Lq.datAll, Lq.appE, Lq.popE, Lq.compF, Lq.compLoop, Lq.compTurn, Lq.yesT, Lq.wipeR, Lq.backR, Lq.plainC, Lq.nameG, Lq.tupG, Lq.consG, Lq.nilG, Lq.seqI, Lq.rngI1, Lq.rngI2, Lq.enumI, Lq.zipI, Lq.isiE, Lq.slE, Lq.aPart, Lq.noPart, Lq.chainE, Lq.strM, Lq.orF, Lq.R.bind, Lq.R.thnO, Lq.raiseS, Lq.raise0S, Lq.tryS, Lq.hNil, Lq.hAs, Lq.goneS, Lq.enumA, Lq.enumK, Lq.ifF, Lq.permA, Lq.permL, Lq.D.noL, Lq.noLs, Lq.isEx, Lq.fldD, Lq.isErrD, Lq.itemsOf, Lq.onlyB, Lq.isB, Lq.D.flat, Lq.starA, Lq.extE, Lq.augS, Lq.ixTE, Lq.mvS, Lq.dfA, Lq.slotD, Lq.propD, Lq.mkE, Lq.mkE0, Lq.callNewN, Lq.isErrND, Lq.callME, Lq.isBD, Lq.addD, Lq.catF, Lq.subD, Lq.mulD, Lq.fdivD, Lq.modD, Lq.powD, Lq.negD, Lq.ltD, Lq.leD, Lq.gtD, Lq.geD, Lq.eqD, Lq.neD, Lq.sameKind, Lq.isD, Lq.isntD, Lq.isNon, Lq.inD, Lq.ninD, Lq.anyEq, Lq.lenD, Lq.atD, Lq.cutD, Lq.revD, Lq.splitD, Lq.joinD, Lq.tupleD, Lq.tupleTD, Lq.listF, Lq.allD, Lq.anyD, Lq.sumD, Lq.absD, Lq.min2D, Lq.max2D, Lq.intD, Lq.strD, Lq.sortedF, Lq.isiB, Lq.tyName, Lq.notObj, Lq.D.items?, Lq.fits, L2.atI, L2.ixN, h, hj0, hj1, hg, hb, List.map_set]
    rw [eb]
    exact e
end
section
/-! ### draws from a list -/
theorem of_ok {k : Nat} {ns : List Int} {xs : List D} (hb : Bx k ns) (h0 : xs ≠ []) (h1 : xs.length ≤ 1000000) (hk : k < 1000000000000) : ∃ x ns', f_law_of ns [.lst xs] = some (x, ns') ∧ x ∈ xs ∧ Bx (k + 1) ns' := by
  have hp := List.length_pos_iff.2 h0
  obtain ⟨r, ns', e, g1, g2, g3⟩ := take_ok hb (n := xs.length) (by omega) (by omega) hk
  have hr : r.toNat < xs.length := by omega
  have hg : xs[r.toNat]? = some xs[r.toNat] := List.getElem?_eq_getElem hr
  refine ⟨xs[r.toNat], ns', ?_, List.getElem_mem hr, g3⟩
  simp [f_law_of, m_law_of, Lq.runF, Lq.runB, Lq.runL, Lq.boxAt, Lq.startR, Lq.seqS, Lq.nextS, Lq.ifS, Lq.asgS, Lq.asgM, Lq.asgG, Lq.retS, Lq.retF, Lq.dropS, Lq.forS, Lq.loopS, Lq.turnS, Lq.putItem, Lq.isMB, Lq.putS1, Lq.parS, Lq.consMd, Lq.consMf', Lq.noErr, Lq.nilM, Lq.setsR, Lq.nameE, Lq.constE, Lq.op1E, Lq.op2E, Lq.opNE, Lq.opNF, Lq.op2F, Lq.lift1, Lq.lift2, Lq.liftN, Lq.res, Lq.resAll, Lq.valT, Lq.notT, Lq.andT, Lq.orT, Lq.andE, Lq.orE, Lq.notE, Lq.ifE, Lq.consA, Lq.nilA, Lq.frzE, Lq.lstF, Lq.tupE, Lq.callE, Lq.callBE, Lq.callL, Lq.callNew, Lq.slotted, Lq.datAll, Lq.appE, Lq.popE, Lq.compF, Lq.compLoop, Lq.compTurn, Lq.yesT, Lq.wipeR, Lq.backR, Lq.plainC, Lq.nameG, Lq.tupG, Lq.consG, Lq.nilG, Lq.seqI, Lq.rngI1, Lq.rngI2, Lq.enumI, Lq.zipI, Lq.isiE, Lq.slE, Lq.aPart, Lq.noPart, Lq.chainE, Lq.strM, Lq.orF, Lq.R.bind, Lq.R.thnO, Lq.raiseS, Lq.raise0S, Lq.tryS, Lq.hNil, Lq.hAs, Lq.goneS, Lq.enumA, Lq.enumK, Lq.ifF, Lq.permA, Lq.permL, Lq.D.noL, Lq.noLs, Lq.isEx, Lq.fldD, Lq.isErrD, Lq.itemsOf, Lq.onlyB, Lq.isB, Lq.D.flat, Lq.starA, Lq.extE, Lq.augS, Lq.ixTE, Lq.mvS, Lq.dfA, Lq.slotD, Lq.propD, Lq.mkE, Lq.mkE0, Lq.callNewN, Lq.isErrND, Lq.callME, Lq.isBD, Lq.addD, Lq.catF, Lq.subD, Lq.mulD, Lq.fdivD, Lq.modD, Lq.powD, Lq.negD, Lq.ltD, Lq.leD, Lq.gtD, Lq.geD, Lq.eqD, Lq.neD, Lq.sameKind, Lq.isD, Lq.isntD, Lq.isNon, Lq.inD, Lq.ninD, Lq.anyEq, Lq.lenD, Lq.atD, Lq.cutD, Lq.revD, Lq.splitD, Lq.joinD, Lq.tupleD, Lq.tupleTD, Lq.listF, Lq.allD, Lq.anyD, Lq.sumD, Lq.absD, Lq.min2D, Lq.max2D, Lq.intD, Lq.strD, Lq.sortedF, Lq.isiB, Lq.tyName, Lq.notObj, Lq.D.items?, Lq.fits, L2.atI, L2.ixN, e, hg, g1, g2]
end
section
/-! ### equal data are the same; lists of lists -/
theorem same_ok : ∀ (n : Nat) (d : D), good n d = true → f_law_same n [d, d] = .ok (.bl true)
  | 0, _, h => by cases h
  | n + 1, d, h => by
    have hc : ∀ (xs : List D) (x : D) (hz : zipI (consA (nameE 0) (consA (nameE 1) nilA)) [.d x, .d x, .no, .no] = .ok (zipD xs xs) [.d x, .d x, .no, .no]), xs.length ≤ 1000000 → (∀ y ∈ xs, good n y = true) →
        opNE allD (consA (frzE (compF [2, 3] (zipI (consA (nameE 0) (consA (nameE 1) nilA))) (tupG 2 (consG (nameG 2) (consG (nameG 3) nilG))) yesT (m_law_same_e1 (f_law_same n)))) nilA) [.d x, .d x, .no, .no] = .ok (.d (.bl true)) [.d x, .d x, .no, .no] := fun xs x hz hl hg => by
      have e := compF_map (vs := [2, 3]) (gd := tupG 2 (consG (nameG 2) (consG (nameG 3) nilG))) (fe := m_law_same_e1 (f_law_same n)) (fun _ => D.bl true) hz rfl rfl rfl (by rw [zip_self_len]; exact hl) (fun d hd => by
        obtain ⟨y, hy, rfl⟩ := zip_self hd
        refine ⟨[.d x, .d x, .d y, .d y], [.d x, .d x, .d y, .d y], rfl, ?_, rfl⟩
        simp [m_law_same_e1, Lq.runF, Lq.runB, Lq.runL, Lq.boxAt, Lq.startR, Lq.seqS, Lq.nextS, Lq.ifS, Lq.asgS, Lq.asgM, Lq.asgG, Lq.retS, Lq.retF, Lq.dropS, Lq.forS, Lq.loopS, Lq.turnS, Lq.putItem, Lq.isMB, Lq.putS1, Lq.parS, Lq.consMd, Lq.consMf', Lq.noErr, Lq.nilM, Lq.setsR, Lq.nameE, Lq.constE, Lq.op1E, Lq.op2E, Lq.opNE, Lq.opNF, Lq.op2F, Lq.lift1, Lq.lift2, Lq.liftN, Lq.res, Lq.resAll, Lq.valT, Lq.notT, Lq.andT, Lq.orT, Lq.andE, Lq.orE, Lq.notE, Lq.ifE, Lq.consA, Lq.nilA, Lq.frzE, Lq.lstF, Lq.tupE, Lq.callE, Lq.callBE, Lq.callL, Lq.callNew, Lq.slotted, Lq.datAll, Lq.appE, Lq.popE, Lq.compF, Lq.compLoop, Lq.compTurn, Lq.yesT, Lq.wipeR, Lq.backR, Lq.plainC, Lq.nameG, Lq.tupG, Lq.consG, Lq.nilG, Lq.seqI, Lq.rngI1, Lq.rngI2, Lq.enumI, Lq.zipI, Lq.isiE, Lq.slE, Lq.aPart, Lq.noPart, Lq.chainE, Lq.strM, Lq.orF, Lq.R.bind, Lq.R.thnO, Lq.raiseS, Lq.raise0S, Lq.tryS, Lq.hNil, Lq.hAs, Lq.goneS, Lq.enumA, Lq.enumK, Lq.ifF, Lq.permA, Lq.permL, Lq.D.noL, Lq.noLs, Lq.isEx, Lq.fldD, Lq.isErrD, Lq.itemsOf, Lq.onlyB, Lq.isB, Lq.D.flat, Lq.starA, Lq.extE, Lq.augS, Lq.ixTE, Lq.mvS, Lq.dfA, Lq.slotD, Lq.propD, Lq.mkE, Lq.mkE0, Lq.callNewN, Lq.isErrND, Lq.callME, same_ok n y (hg y hy)])
      rw [map_yes] at e
      simp only [Lq.opNE, Lq.consA, Lq.nilA, Lq.frzE, e, Lq.R.bind, Lq.liftN, Lq.resAll, Lq.res, all_true]
    cases d with
    | obj _ _ => cases h
    | scr _ => cases h
    | lst xs =>
      obtain ⟨hl, hg⟩ : xs.length ≤ 1000000 ∧ ∀ y ∈ xs, good n y = true := by
        unfold good at h
        rw [Bool.and_eq_true] at h
        exact ⟨of_decide_eq_true h.1, List.all_eq_true.1 h.2⟩
      have e := hc xs (.lst xs) (by simp [Lq.runF, Lq.runB, Lq.runL, Lq.boxAt, Lq.startR, Lq.seqS, Lq.nextS, Lq.ifS, Lq.asgS, Lq.asgM, Lq.asgG, Lq.retS, Lq.retF, Lq.dropS, Lq.forS, Lq.loopS, Lq.turnS, Lq.putItem, Lq.isMB, Lq.putS1, Lq.parS, Lq.consMd, Lq.consMf', Lq.noErr, Lq.nilM, Lq.setsR, Lq.nameE, Lq.constE, Lq.op1E, Lq.op2E, Lq.opNE, Lq.opNF, Lq.op2F, Lq.lift1, Lq.lift2, Lq.liftN, Lq.res, Lq.resAll, Lq.valT, Lq.notT, Lq.andT, Lq.orT, Lq.andE, Lq.orE, Lq.notE, Lq.ifE, Lq.consA, Lq.nilA, Lq.frzE, Lq.lstF, Lq.tupE, Lq.callE, Lq.callBE, Lq.callL, Lq.callNew, Lq.slotted, Lq.datAll, Lq.appE, Lq.popE, Lq.compF, Lq.compLoop, Lq.compTurn, Lq.yesT, Lq.wipeR, Lq.backR, Lq.plainC, Lq.nameG, Lq.tupG, Lq.consG, Lq.nilG, Lq.seqI, Lq.rngI1, Lq.rngI2, Lq.enumI, Lq.zipI, Lq.isiE, Lq.slE, Lq.aPart, Lq.noPart, Lq.chainE, Lq.strM, Lq.orF, Lq.R.bind, Lq.R.thnO, Lq.raiseS, Lq.raise0S, Lq.tryS, Lq.hNil, Lq.hAs, Lq.goneS, Lq.enumA, Lq.enumK, Lq.ifF, Lq.permA, Lq.permL, Lq.D.noL, Lq.noLs, Lq.isEx, Lq.fldD, Lq.isErrD, Lq.itemsOf, Lq.onlyB, Lq.isB, Lq.D.flat, Lq.starA, Lq.extE, Lq.augS, Lq.ixTE, Lq.mvS, Lq.dfA, Lq.slotD, Lq.propD, Lq.mkE, Lq.mkE0, Lq.callNewN, Lq.isErrND, Lq.callME]) hl hg
      generalize hF : opNE allD (consA (frzE (compF [2, 3] (zipI (consA (nameE 0) (consA (nameE 1) nilA))) (tupG 2 (consG (nameG 2) (consG (nameG 3) nilG))) yesT (m_law_same_e1 (f_law_same n)))) nilA) = F at e
      rw [f_law_same, m_law_same, m_law_same_c1, hF]
      simp [Lq.runF, Lq.runB, Lq.runL, Lq.boxAt, Lq.startR, Lq.seqS, Lq.nextS, Lq.ifS, Lq.asgS, Lq.asgM, Lq.asgG, Lq.retS, Lq.retF, Lq.dropS, Lq.forS, Lq.loopS, Lq.turnS, Lq.putItem, Lq.isMB, Lq.putS1, Lq.parS, Lq.consMd, Lq.consMf', Lq.noErr, Lq.nilM, Lq.setsR, Lq.nameE, Lq.constE, Lq.op1E, Lq.op2E, Lq.opNE, Lq.opNF, Lq.op2F, Lq.lift1, Lq.lift2, Lq.liftN, Lq.res, Lq.resAll, Lq.valT, Lq.notT, Lq.andT, Lq.orT, Lq.andE, Lq.orE, Lq.notE, Lq.ifE, Lq.consA, Lq.nilA, Lq.frzE, Lq.lstF, Lq.tupE, Lq.callE, Lq.callBE, Lq.callL, Lq.callNew, Lq.slotted, Lq.datAll, Lq.appE, Lq.popE, Lq.compF, Lq.compLoop, Lq.compTurn, Lq.yesT, Lq.wipeR, Lq.backR, Lq.plainC, Lq.nameG, Lq.tupG, Lq.consG, Lq.nilG, Lq.seqI, Lq.rngI1, Lq.rngI2, Lq.enumI, Lq.zipI, Lq.isiE, Lq.slE, Lq.aPart, Lq.noPart, Lq.chainE, Lq.strM, Lq.orF, Lq.R.bind, Lq.R.thnO, Lq.raiseS, Lq.raise0S, Lq.tryS, Lq.hNil, Lq.hAs, Lq.goneS, Lq.enumA, Lq.enumK, Lq.ifF, Lq.permA, Lq.permL, Lq.D.noL, Lq.noLs, Lq.isEx, Lq.fldD, Lq.isErrD, Lq.itemsOf, Lq.onlyB, Lq.isB, Lq.D.flat, Lq.starA, Lq.extE, Lq.augS, Lq.ixTE, Lq.mvS, Lq.dfA, Lq.slotD, Lq.propD, Lq.mkE, Lq.mkE0, Lq.callNewN, Lq.isErrND, Lq.callME, Lq.isBD, Lq.addD, Lq.catF, Lq.subD, Lq.mulD, Lq.fdivD, Lq.modD, Lq.powD, Lq.negD, Lq.ltD, Lq.leD, Lq.gtD, Lq.geD, Lq.eqD, Lq.neD, Lq.sameKind, Lq.isD, Lq.isntD, Lq.isNon, Lq.inD, Lq.ninD, Lq.anyEq, Lq.lenD, Lq.atD, Lq.cutD, Lq.revD, Lq.splitD, Lq.joinD, Lq.tupleD, Lq.tupleTD, Lq.listF, Lq.allD, Lq.anyD, Lq.sumD, Lq.absD, Lq.min2D, Lq.max2D, Lq.intD, Lq.strD, Lq.sortedF, Lq.isiB, Lq.tyName, Lq.notObj, Lq.D.items?, Lq.fits, L2.atI, L2.ixN, e, Lq.deq]
    | tup xs =>
      obtain ⟨hl, hg⟩ : xs.length ≤ 1000000 ∧ ∀ y ∈ xs, good n y = true := by
        unfold good at h
        rw [Bool.and_eq_true] at h
        exact ⟨of_decide_eq_true h.1, List.all_eq_true.1 h.2⟩
      have e := hc xs (.tup xs) (by simp [Lq.runF, Lq.runB, Lq.runL, Lq.boxAt, Lq.startR, Lq.seqS, Lq.nextS, Lq.ifS, Lq.asgS, Lq.asgM, Lq.asgG, Lq.retS, Lq.retF, Lq.dropS, Lq.forS, Lq.loopS, Lq.turnS, Lq.putItem, Lq.isMB, Lq.putS1, Lq.parS, Lq.consMd, Lq.consMf', Lq.noErr, Lq.nilM, Lq.setsR, Lq.nameE, Lq.constE, Lq.op1E, Lq.op2E, Lq.opNE, Lq.opNF, Lq.op2F, Lq.lift1, Lq.lift2, Lq.liftN, Lq.res, Lq.resAll, Lq.valT, Lq.notT, Lq.andT, Lq.orT, Lq.andE, Lq.orE, Lq.notE, Lq.ifE, Lq.consA, Lq.nilA, Lq.frzE, Lq.lstF, Lq.tupE, Lq.callE, Lq.callBE, Lq.callL, Lq.callNew, Lq.slotted, Lq.datAll, Lq.appE, Lq.popE, Lq.compF, Lq.compLoop, Lq.compTurn, Lq.yesT, Lq.wipeR, Lq.backR, Lq.plainC, Lq.nameG, Lq.tupG, Lq.consG, Lq.nilG, Lq.seqI, Lq.rngI1, Lq.rngI2, Lq.enumI, Lq.zipI, Lq.isiE, Lq.slE, Lq.aPart, Lq.noPart, Lq.chainE, Lq.strM, Lq.orF, Lq.R.bind, Lq.R.thnO, Lq.raiseS, Lq.raise0S, Lq.tryS, Lq.hNil, Lq.hAs, Lq.goneS, Lq.enumA, Lq.enumK, Lq.ifF, Lq.permA, Lq.permL, Lq.D.noL, Lq.noLs, Lq.isEx, Lq.fldD, Lq.isErrD, Lq.itemsOf, Lq.onlyB, Lq.isB, Lq.D.flat, Lq.starA, Lq.extE, Lq.augS, Lq.ixTE, Lq.mvS, Lq.dfA, Lq.slotD, Lq.propD, Lq.mkE, Lq.mkE0, Lq.callNewN, Lq.isErrND, Lq.callME]) hl hg
      generalize hF : opNE allD (consA (frzE (compF [2, 3] (zipI (consA (nameE 0) (consA (nameE 1) nilA))) (tupG 2 (consG (nameG 2) (consG (nameG 3) nilG))) yesT (m_law_same_e1 (f_law_same n)))) nilA) = F at e
      rw [f_law_same, m_law_same, m_law_same_c1, hF]
      simp [Lq.runF, Lq.runB, Lq.runL, Lq.boxAt, Lq.startR, Lq.seqS, Lq.nextS, Lq.ifS, Lq.asgS, Lq.asgM, Lq.asgG, Lq.retS, Lq.retF, Lq.dropS, Lq.forS, Lq.loopS, Lq.turnS, Lq.putItem, Lq.isMB, Lq.putS1, Lq.parS, Lq.consMd, Lq.consMf', Lq.noErr, Lq.nilM, Lq.setsR, Lq.nameE, Lq.constE, Lq.op1E, Lq.op2E, Lq.opNE, Lq.opNF, Lq.op2F, Lq.lift1, Lq.lift2, Lq.liftN, Lq.res, Lq.resAll, Lq.valT, Lq.notT, Lq.andT, Lq.orT, Lq.andE, Lq.orE, Lq.notE, Lq.ifE, Lq.consA, Lq.nilA, Lq.frzE, Lq.lstF, Lq.tupE, Lq.callE, Lq.callBE, Lq.callL, Lq.callNew, Lq.slotted, Lq.datAll, Lq.appE, Lq.popE, Lq.compF, Lq.compLoop, Lq.compTurn, Lq.yesT, Lq.wipeR, Lq.backR, Lq.plainC, Lq.nameG, Lq.tupG, Lq.consG, Lq.nilG, Lq.seqI, Lq.rngI1, Lq.rngI2, Lq.enumI, Lq.zipI, Lq.isiE, Lq.slE, Lq.aPart, Lq.noPart, Lq.chainE, Lq.strM, Lq.orF, Lq.R.bind, Lq.R.thnO, Lq.raiseS, Lq.raise0S, Lq.tryS, Lq.hNil, Lq.hAs, Lq.goneS, Lq.enumA, Lq.enumK, Lq.ifF, Lq.permA, Lq.permL, Lq.D.noL, Lq.noLs, Lq.isEx, Lq.fldD, Lq.isErrD, Lq.itemsOf, Lq.onlyB, Lq.isB, Lq.D.flat, Lq.starA, Lq.extE, Lq.augS, Lq.ixTE, Lq.mvS, Lq.dfA, Lq.slotD, Lq.propD, Lq.mkE, Lq.mkE0, Lq.callNewN, Lq.isErrND, Lq.callME, Lq.isBD, Lq.addD, Lq.catF, Lq.subD, Lq.mulD, Lq.fdivD, Lq.modD, Lq.powD, Lq.negD, Lq.ltD, Lq.leD, Lq.gtD, Lq.geD, Lq.eqD, Lq.neD, Lq.sameKind, Lq.isD, Lq.isntD, Lq.isNon, Lq.inD, Lq.ninD, Lq.anyEq, Lq.lenD, Lq.atD, Lq.cutD, Lq.revD, Lq.splitD, Lq.joinD, Lq.tupleD, Lq.tupleTD, Lq.listF, Lq.allD, Lq.anyD, Lq.sumD, Lq.absD, Lq.min2D, Lq.max2D, Lq.intD, Lq.strD, Lq.sortedF, Lq.isiB, Lq.tyName, Lq.notObj, Lq.D.items?, Lq.fits, L2.atI, L2.ixN, e, Lq.deq]
    | _ => simp [f_law_same, m_law_same, m_law_same_c1, Lq.runF, Lq.runB, Lq.runL, Lq.boxAt, Lq.startR, Lq.seqS, Lq.nextS, Lq.ifS, Lq.asgS, Lq.asgM, Lq.asgG, Lq.retS, Lq.retF, Lq.dropS, Lq.forS, Lq.loopS, Lq.turnS, Lq.putItem, Lq.isMB, Lq.putS1, Lq.parS, Lq.consMd, Lq.consMf', Lq.noErr, Lq.nilM, Lq.setsR, Lq.nameE, Lq.constE, Lq.op1E, Lq.op2E, Lq.opNE, Lq.opNF, Lq.op2F, Lq.lift1, Lq.lift2, Lq.liftN, Lq.res, Lq.resAll, Lq.valT, Lq.notT, Lq.andT, Lq.orT, Lq.andE, Lq.orE, Lq.notE, Lq.ifE, Lq.consA, Lq.nilA, Lq.frzE, Lq.lstF, Lq.tupE, Lq.callE, Lq.callBE, Lq.callL, Lq.callNew, Lq.slotted, Lq.datAll, Lq.appE, Lq.popE, Lq.compF, Lq.compLoop, Lq.compTurn, Lq.yesT, Lq.wipeR, Lq.backR, Lq.plainC, Lq.nameG, Lq.tupG, Lq.consG, Lq.nilG, Lq.seqI, Lq.rngI1, Lq.rngI2, Lq.enumI, Lq.zipI, Lq.isiE, Lq.slE, Lq.aPart, Lq.noPart, Lq.chainE, Lq.strM, Lq.orF, Lq.R.bind, Lq.R.thnO, Lq.raiseS, Lq.raise0S, Lq.tryS, Lq.hNil, Lq.hAs, Lq.goneS, Lq.enumA, Lq.enumK, Lq.ifF, Lq.permA, Lq.permL, Lq.D.noL, Lq.noLs, Lq.isEx, Lq.fldD, Lq.isErrD, Lq.itemsOf, Lq.onlyB, Lq.isB, Lq.D.flat, Lq.starA, Lq.extE, Lq.augS, Lq.ixTE, Lq.mvS, Lq.dfA, Lq.slotD, Lq.propD, Lq.mkE, Lq.mkE0, Lq.callNewN, Lq.isErrND, Lq.callME, Lq.isBD, Lq.addD, Lq.catF, Lq.subD, Lq.mulD, Lq.fdivD, Lq.modD, Lq.powD, Lq.negD, Lq.ltD, Lq.leD, Lq.gtD, Lq.geD, Lq.eqD, Lq.neD, Lq.sameKind, Lq.isD, Lq.isntD, Lq.isNon, Lq.inD, Lq.ninD, Lq.anyEq, Lq.lenD, Lq.atD, Lq.cutD, Lq.revD, Lq.splitD, Lq.joinD, Lq.tupleD, Lq.tupleTD, Lq.listF, Lq.allD, Lq.anyD, Lq.sumD, Lq.absD, Lq.min2D, Lq.max2D, Lq.intD, Lq.strD, Lq.sortedF, Lq.isiB, Lq.tyName, Lq.notObj, Lq.D.items?, Lq.fits, L2.atI, L2.ixN, Lq.deq]
end
section
/-! ### Turns in plain data -/
abbrev Rn := Bool × Int
def hS (b : Bool) : Str := if b then "a" else "b"
def hD (b : Bool) : D := .str (hS b)
def rD (r : Rn) : D := .tup [hD r.1, .int r.2]
def sumR : List Rn → Int
  | [] => 0
  | r :: rs => r.2 + sumR rs
def endsR : Int → List Rn → List Int
  | _, [] => []
  | s, r :: rs => (s + r.2) :: endsR (s + r.2) rs
/-- one run more, behind -/
def addR : List Rn → Rn → List Rn
  | [], r => [r]
  | [l], r => if l.1 = r.1 then [(r.1, l.2 + r.2)] else [l, r]
  | l :: m :: ls, r => l :: addR (m :: ls) r
def joinR (rs : List Rn) : List Rn := rs.foldl addR []
def TD (rs : List Rn) : D := .obj 20 [.tup ((endsR 0 rs).map D.int), .tup (rs.map rD)]
theorem addR_snoc (xs : List Rn) (l r : Rn) : addR (xs ++ [l]) r = if l.1 = r.1 then xs ++ [(r.1, l.2 + r.2)] else xs ++ [l, r] := by
  induction xs with
  | nil => simp only [List.nil_append, addR]
  | cons x xs ih =>
    cases xs with
    | nil => simp only [List.nil_append, List.cons_append, addR] at ih ⊢; split <;> rfl
    | cons y ys =>
      simp only [List.cons_append, addR] at ih ⊢
      rw [ih]; split <;> rfl
theorem snoc_cases {α : Type} (l : List α) : l = [] ∨ ∃ l' b, l = l' ++ [b] := by
  rcases List.eq_nil_or_concat l with h | ⟨l', b, h⟩
  · exact .inl h
  · exact .inr ⟨l', b, by rw [h, List.concat_eq_append]⟩
theorem addR_len (xs : List Rn) (r : Rn) : (addR xs r).length ≤ xs.length + 1 := by
  rcases snoc_cases xs with rfl | ⟨xs, l, rfl⟩
  · simp [addR]
  · rw [addR_snoc]; split <;> simp
theorem at_last (xs : List D) (y : D) : atD (.tup (xs ++ [y])) (.int (-1)) = some y := by
  show L2.atI (xs ++ [y]) (-1) = _
  unfold L2.atI L2.ixN
  rw [if_neg (by omega), if_pos (by simp; omega)]
  have : ((-1 : Int) + ((xs ++ [y]).length : Nat)).toNat = xs.length := by simp; omega
  rw [this]; simp
theorem cut_last (xs : List D) (y : D) : cutD (.tup (xs ++ [y])) none (some (-1)) = some (.tup xs) := by
  show some (D.tup (cutL (xs ++ [y]) none (some (-1)))) = _
  unfold cutL
  have e1 : HT.sIx (xs ++ [y]).length 0 none = 0 := rfl
  have e2 : HT.sIx (xs ++ [y]).length (xs ++ [y]).length (some (-1)) = xs.length := by
    show (if (-1 : Int) < 0 then ((-1 : Int) + ((xs ++ [y]).length : Nat)).toNat else min (-1 : Int).toNat (xs ++ [y]).length) = _
    rw [if_pos (by omega)]; simp; omega
  rw [e1, e2, List.drop_zero, Nat.sub_zero, List.take_left]
theorem hS_eq (a b : Bool) : (hS a == hS b) = decide (a = b) := by cases a <;> cases b <;> decide
theorem tup_at0 (x y : D) : atD (.tup [x, y]) (.int 0) = some x := rfl
theorem tup_at1 (x y : D) : atD (.tup [x, y]) (.int 1) = some y := rfl
theorem datAll_ap {α : Type} (f : α → D) (r : List VD) : ∀ l : List α, datAll (l.map (VD.d ∘ f) ++ r) = (datAll r).map (l.map f ++ ·)
  | [] => by simp
  | a :: l => by
    show (match datAll (l.map (VD.d ∘ f) ++ r) with | some ds => some (f a :: ds) | none => none) = _
    rw [datAll_ap f r l]
    cases datAll r <;> rfl
theorem join_turn {x : D} {acc : List Rn} {r : Rn} {c2 c3 : Cell} (h : acc.length < 100000) : turnS m_joined_runs_g1 m_joined_runs_b1 (rD r) [.d x, .d (.tup (acc.map rD)), c2, c3] = .nx [.d x, .d (.tup ((addR acc r).map rD)), .d (hD r.1), .d (.int r.2)] := by
  obtain ⟨b, n⟩ := r
  rcases snoc_cases acc with rfl | ⟨acc, l, rfl⟩
  · simp [m_joined_runs_g1, m_joined_runs_b1, turnS, Lq.runF, Lq.runB, Lq.runL, Lq.boxAt, Lq.startR, Lq.seqS, Lq.nextS, Lq.ifS, Lq.asgS, Lq.asgM, Lq.asgG, Lq.retS, Lq.retF, Lq.dropS, Lq.forS, Lq.putItem, Lq.isMB, Lq.putS1, Lq.parS, Lq.consMd, Lq.consMf', Lq.noErr, Lq.nilM, Lq.setsR, Lq.nameE, Lq.constE, Lq.op1E, Lq.op2E, Lq.opNE, Lq.opNF, Lq.op2F, Lq.lift1, Lq.lift2, Lq.liftN, Lq.res, Lq.resAll, Lq.valT, Lq.notT, Lq.andT, Lq.orT, Lq.andE, Lq.orE, Lq.notE, Lq.ifE, Lq.consA, Lq.nilA, Lq.frzE, Lq.lstF, Lq.tupE, Lq.callE, Lq.callBE, Lq.callL, Lq.callNew, Lq.slotted, Lq.datAll, Lq.appE, Lq.popE, Lq.yesT, Lq.wipeR, Lq.backR, Lq.plainC, Lq.nameG, Lq.tupG, Lq.consG, Lq.nilG, Lq.seqI, Lq.rngI1, Lq.rngI2, Lq.enumI, Lq.zipI, Lq.isiE, Lq.slE, Lq.aPart, Lq.noPart, Lq.chainE, Lq.strM, Lq.orF, Lq.R.bind, Lq.R.thnO, Lq.raiseS, Lq.raise0S, Lq.tryS, Lq.hNil, Lq.hAs, Lq.goneS, Lq.enumA, Lq.enumK, Lq.ifF, Lq.permA, Lq.permL, Lq.D.noL, Lq.noLs, Lq.isEx, Lq.fldD, Lq.isErrD, Lq.itemsOf, Lq.onlyB, Lq.isB, Lq.D.flat, Lq.starA, Lq.extE, Lq.augS, Lq.ixTE, Lq.mvS, Lq.dfA, Lq.slotD, Lq.propD, Lq.mkE, Lq.mkE0, Lq.callNewN, Lq.isErrND, Lq.callME, Lq.isBD, Lq.addD, Lq.catF, Lq.subD, Lq.negD, Lq.ltD, Lq.leD, Lq.gtD, Lq.geD, Lq.eqD, Lq.neD, Lq.sameKind, Lq.isD, Lq.isntD, Lq.isNon, Lq.lenD, Lq.isiB, Lq.tyName, Lq.notObj, Lq.D.items?, Lq.fits, L2.atI, L2.ixN, rD, addR, hD]
  · obtain ⟨c, m⟩ := l
    have h2 : acc.length < 100000 := by simp at h; omega
    have e1 := at_last (acc.map rD) (.tup [.str (hS c), .int m])
    have e2 := cut_last (acc.map rD) (.tup [.str (hS c), .int m])
    have f1 : fits (acc.length + 1) = true := fits_of (by omega)
    have f2 : fits (acc.length + 1 + 1) = true := fits_of (by omega)
    rw [addR_snoc]
    by_cases hb : c = b
    · subst hb
      simp [m_joined_runs_g1, m_joined_runs_b1, turnS, Lq.runF, Lq.runB, Lq.runL, Lq.boxAt, Lq.startR, Lq.seqS, Lq.nextS, Lq.ifS, Lq.asgS, Lq.asgM, Lq.asgG, Lq.retS, Lq.retF, Lq.dropS, Lq.forS, Lq.putItem, Lq.isMB, Lq.putS1, Lq.parS, Lq.consMd, Lq.consMf', Lq.noErr, Lq.nilM, Lq.setsR, Lq.nameE, Lq.constE, Lq.op1E, Lq.op2E, Lq.opNE, Lq.opNF, Lq.op2F, Lq.lift1, Lq.lift2, Lq.liftN, Lq.res, Lq.resAll, Lq.valT, Lq.notT, Lq.andT, Lq.orT, Lq.andE, Lq.orE, Lq.notE, Lq.ifE, Lq.consA, Lq.nilA, Lq.frzE, Lq.lstF, Lq.tupE, Lq.callE, Lq.callBE, Lq.callL, Lq.callNew, Lq.slotted, Lq.datAll, Lq.appE, Lq.popE, Lq.yesT, Lq.wipeR, Lq.backR, Lq.plainC, Lq.nameG, Lq.tupG, Lq.consG, Lq.nilG, Lq.seqI, Lq.rngI1, Lq.rngI2, Lq.enumI, Lq.zipI, Lq.isiE, Lq.slE, Lq.aPart, Lq.noPart, Lq.chainE, Lq.strM, Lq.orF, Lq.R.bind, Lq.R.thnO, Lq.raiseS, Lq.raise0S, Lq.tryS, Lq.hNil, Lq.hAs, Lq.goneS, Lq.enumA, Lq.enumK, Lq.ifF, Lq.permA, Lq.permL, Lq.D.noL, Lq.noLs, Lq.isEx, Lq.fldD, Lq.isErrD, Lq.itemsOf, Lq.onlyB, Lq.isB, Lq.D.flat, Lq.starA, Lq.extE, Lq.augS, Lq.ixTE, Lq.mvS, Lq.dfA, Lq.slotD, Lq.propD, Lq.mkE, Lq.mkE0, Lq.callNewN, Lq.isErrND, Lq.callME, Lq.isBD, Lq.addD, Lq.catF, Lq.subD, Lq.negD, Lq.ltD, Lq.leD, Lq.gtD, Lq.geD, Lq.eqD, Lq.neD, Lq.sameKind, Lq.isD, Lq.isntD, Lq.isNon, Lq.lenD, Lq.isiB, Lq.tyName, Lq.notObj, Lq.D.items?, Lq.fits, L2.atI, L2.ixN, e1, e2, rD, hD, deq, tup_at0, tup_at1, datAll_ap, datAll, f1, show acc.length + 1 ≤ 1000000 by omega]
    · have hq : (hS c == hS b) = false := by rw [hS_eq]; exact decide_eq_false hb
      have hq' : hS c ≠ hS b := fun z => by rw [z] at hq; simp at hq
      simp [m_joined_runs_g1, m_joined_runs_b1, turnS, Lq.runF, Lq.runB, Lq.runL, Lq.boxAt, Lq.startR, Lq.seqS, Lq.nextS, Lq.ifS, Lq.asgS, Lq.asgM, Lq.asgG, Lq.retS, Lq.retF, Lq.dropS, Lq.forS, Lq.putItem, Lq.isMB, Lq.putS1, Lq.parS, Lq.consMd, Lq.consMf', Lq.noErr, Lq.nilM, Lq.setsR, Lq.nameE, Lq.constE, Lq.op1E, Lq.op2E, Lq.opNE, Lq.opNF, Lq.op2F, Lq.lift1, Lq.lift2, Lq.liftN, Lq.res, Lq.resAll, Lq.valT, Lq.notT, Lq.andT, Lq.orT, Lq.andE, Lq.orE, Lq.notE, Lq.ifE, Lq.consA, Lq.nilA, Lq.frzE, Lq.lstF, Lq.tupE, Lq.callE, Lq.callBE, Lq.callL, Lq.callNew, Lq.slotted, Lq.datAll, Lq.appE, Lq.popE, Lq.yesT, Lq.wipeR, Lq.backR, Lq.plainC, Lq.nameG, Lq.tupG, Lq.consG, Lq.nilG, Lq.seqI, Lq.rngI1, Lq.rngI2, Lq.enumI, Lq.zipI, Lq.isiE, Lq.slE, Lq.aPart, Lq.noPart, Lq.chainE, Lq.strM, Lq.orF, Lq.R.bind, Lq.R.thnO, Lq.raiseS, Lq.raise0S, Lq.tryS, Lq.hNil, Lq.hAs, Lq.goneS, Lq.enumA, Lq.enumK, Lq.ifF, Lq.permA, Lq.permL, Lq.D.noL, Lq.noLs, Lq.isEx, Lq.fldD, Lq.isErrD, Lq.itemsOf, Lq.onlyB, Lq.isB, Lq.D.flat, Lq.starA, Lq.extE, Lq.augS, Lq.ixTE, Lq.mvS, Lq.dfA, Lq.slotD, Lq.propD, Lq.mkE, Lq.mkE0, Lq.callNewN, Lq.isErrND, Lq.callME, Lq.isBD, Lq.addD, Lq.catF, Lq.subD, Lq.negD, Lq.ltD, Lq.leD, Lq.gtD, Lq.geD, Lq.eqD, Lq.neD, Lq.sameKind, Lq.isD, Lq.isntD, Lq.isNon, Lq.lenD, Lq.isiB, Lq.tyName, Lq.notObj, Lq.D.items?, Lq.fits, L2.atI, L2.ixN, e1, e2, rD, hD, deq, tup_at0, tup_at1, hq', hb, datAll_ap, datAll, f2, show acc.length + 2 ≤ 1000000 by omega]
theorem join_loop {x : D} : ∀ (rs acc : List Rn) (c2 c3 : Cell), acc.length + rs.length ≤ 90000 → ∃ c2' c3', loopS (turnS m_joined_runs_g1 m_joined_runs_b1) (rs.map rD) [.d x, .d (.tup (acc.map rD)), c2, c3] = .nx [.d x, .d (.tup ((rs.foldl addR acc).map rD)), c2', c3']
  | [], acc, c2, c3, _ => ⟨c2, c3, rfl⟩
  | r :: rs, acc, c2, c3, h => by
    rw [List.length_cons] at h
    have hl := addR_len acc r
    obtain ⟨a, b, e⟩ := join_loop rs (addR acc r) (.d (hD r.1)) (.d (.int r.2)) (by omega)
    refine ⟨a, b, ?_⟩
    rw [List.map_cons, loopS, join_turn (by omega)]
    exact e
theorem joined_ok {x : D} {rs : List Rn} (hx : x.items? = some (rs.map rD)) (h : rs.length ≤ 90000) : f_joined_runs [x] = .ok (.tup ((joinR rs).map rD)) := by
  obtain ⟨a, b, e⟩ := join_loop (x := x) rs [] .no .no (by simpa using h)
  have el : m_joined_runs_l1 [.d x, .d (.tup []), .no, .no] = .nx [.d x, .d (.tup ((joinR rs).map rD)), a, b] := by
    simp only [m_joined_runs_l1, forS, items_seq (i := 0) (ρ := [.d x, .d (.tup []), .no, .no]) hx rfl, R.thnO]
    exact e
  simp [f_joined_runs, m_joined_runs, Lq.runF, Lq.runB, Lq.runL, Lq.boxAt, Lq.startR, Lq.seqS, Lq.nextS, Lq.ifS, Lq.asgS, Lq.asgM, Lq.asgG, Lq.retS, Lq.retF, Lq.dropS, Lq.forS, Lq.putItem, Lq.isMB, Lq.putS1, Lq.parS, Lq.consMd, Lq.consMf', Lq.noErr, Lq.nilM, Lq.setsR, Lq.nameE, Lq.constE, Lq.op1E, Lq.op2E, Lq.opNE, Lq.opNF, Lq.op2F, Lq.lift1, Lq.lift2, Lq.liftN, Lq.res, Lq.resAll, Lq.valT, Lq.notT, Lq.andT, Lq.orT, Lq.andE, Lq.orE, Lq.notE, Lq.ifE, Lq.consA, Lq.nilA, Lq.frzE, Lq.lstF, Lq.tupE, Lq.callE, Lq.callBE, Lq.callL, Lq.callNew, Lq.slotted, Lq.datAll, Lq.appE, Lq.popE, Lq.yesT, Lq.wipeR, Lq.backR, Lq.plainC, Lq.nameG, Lq.tupG, Lq.consG, Lq.nilG, Lq.seqI, Lq.rngI1, Lq.rngI2, Lq.enumI, Lq.zipI, Lq.isiE, Lq.slE, Lq.aPart, Lq.noPart, Lq.chainE, Lq.strM, Lq.orF, Lq.R.bind, Lq.R.thnO, Lq.raiseS, Lq.raise0S, Lq.tryS, Lq.hNil, Lq.hAs, Lq.goneS, Lq.enumA, Lq.enumK, Lq.ifF, Lq.permA, Lq.permL, Lq.D.noL, Lq.noLs, Lq.isEx, Lq.fldD, Lq.isErrD, Lq.itemsOf, Lq.onlyB, Lq.isB, Lq.D.flat, Lq.starA, Lq.extE, Lq.augS, Lq.ixTE, Lq.mvS, Lq.dfA, Lq.slotD, Lq.propD, Lq.mkE, Lq.mkE0, Lq.callNewN, Lq.isErrND, Lq.callME, Lq.isBD, Lq.addD, Lq.catF, Lq.subD, Lq.negD, Lq.ltD, Lq.leD, Lq.gtD, Lq.geD, Lq.eqD, Lq.neD, Lq.sameKind, Lq.isD, Lq.isntD, Lq.isNon, Lq.lenD, Lq.isiB, Lq.tyName, Lq.notObj, Lq.D.items?, Lq.fits, L2.atI, L2.ixN, el]
/-! ends -/
theorem sumR_int : ∀ rs : List Rn, (rs.map (·.2)).sum = sumR rs
  | [] => rfl
  | r :: rs => by rw [List.map_cons, List.sum_cons, sumR_int rs]; rfl
theorem sum_ints (ns : List Int) : sumD [.lst (ns.map D.int)] = some (.int ns.sum) := by rw [sumD, allOf_map_int]
theorem endsR_len : ∀ (s : Int) (rs : List Rn), (endsR s rs).length = rs.length
  | _, [] => rfl
  | s, r :: rs => by simp [endsR, endsR_len _ rs]
theorem endsR_at : ∀ (s : Int) (rs : List Rn), endsR s rs = (List.range rs.length).map fun i => s + sumR (rs.take (i + 1))
  | _, [] => rfl
  | s, r :: rs => by
    rw [endsR, endsR_at (s + r.2) rs, List.length_cons, List.range_succ_eq_map, List.map_cons, List.map_map]
    congr 1
    · simp [sumR]
    · refine List.map_congr_left fun i _ => ?_
      simp [sumR]; omega
def nD : D → D | .tup [_, y] => y | x => x
theorem nD_map (rs : List Rn) : (rs.map rD).map nD = (rs.map (·.2)).map D.int := by
  rw [List.map_map, List.map_map]; rfl
theorem ends_turn {x : D} {rs : List Rn} {i : Nat} (hx : x = .tup (rs.map rD) ) (h : rs.length ≤ 90000) (hi : i < rs.length) : m_ends_of_e2 [.d x, .d (.int i), .no, .no] = .ok (.d (.int (sumR (rs.take (i + 1))))) [.d x, .d (.int i), .no, .no] := by
  subst hx
  have ec : cutD (.tup (rs.map rD)) none (some ((i : Int) + 1)) = some (.tup ((rs.take (i + 1)).map rD)) := by
    show some (D.tup (cutL (rs.map rD) none (some (((i + 1 : Nat)) : Int)))) = _
    rw [cutL_to, List.map_take]
  have e := compF_m (vs := [2, 3]) (fi := seqI (slE (nameE 0) noPart (aPart (op2E addD (nameE 1) (constE (.int 1)))))) (gd := tupG 2 (consG (nameG 2) (consG (nameG 3) nilG))) (fe := m_ends_of_e1) (ρ := [.d (.tup (rs.map rD)), .d (.int i), .no, .no]) (ρ0 := [.d (.tup (rs.map rD)), .d (.int i), .no, .no])
    (ds := (rs.take (i + 1)).map rD) nD (by simp [Lq.runF, Lq.runB, Lq.runL, Lq.boxAt, Lq.startR, Lq.seqS, Lq.nextS, Lq.ifS, Lq.asgS, Lq.asgM, Lq.asgG, Lq.retS, Lq.retF, Lq.dropS, Lq.forS, Lq.loopS, Lq.turnS, Lq.putItem, Lq.isMB, Lq.putS1, Lq.parS, Lq.consMd, Lq.consMf', Lq.noErr, Lq.nilM, Lq.setsR, Lq.nameE, Lq.constE, Lq.op1E, Lq.op2E, Lq.opNE, Lq.opNF, Lq.op2F, Lq.lift1, Lq.lift2, Lq.liftN, Lq.res, Lq.resAll, Lq.valT, Lq.notT, Lq.andT, Lq.orT, Lq.andE, Lq.orE, Lq.notE, Lq.ifE, Lq.consA, Lq.nilA, Lq.frzE, Lq.lstF, Lq.tupE, Lq.callE, Lq.callBE, Lq.callL, Lq.callNew, Lq.slotted, Lq.datAll, Lq.appE, Lq.popE, Lq.compF, Lq.compLoop, Lq.compTurn, Lq.yesT, Lq.wipeR, Lq.backR, Lq.plainC, Lq.nameG, Lq.tupG, Lq.consG, Lq.nilG, Lq.seqI, Lq.rngI1, Lq.rngI2, Lq.enumI, Lq.zipI, Lq.isiE, Lq.slE, Lq.aPart, Lq.noPart, Lq.chainE, Lq.strM, Lq.orF, Lq.R.bind, Lq.R.thnO, Lq.raiseS, Lq.raise0S, Lq.tryS, Lq.hNil, Lq.hAs, Lq.goneS, Lq.enumA, Lq.enumK, Lq.ifF, Lq.permA, Lq.permL, Lq.D.noL, Lq.noLs, Lq.isEx, Lq.fldD, Lq.isErrD, Lq.itemsOf, Lq.onlyB, Lq.isB, Lq.D.flat, Lq.starA, Lq.extE, Lq.augS, Lq.ixTE, Lq.mvS, Lq.dfA, Lq.slotD, Lq.propD, Lq.mkE, Lq.mkE0, Lq.callNewN, Lq.isErrND, Lq.callME, addD, ec]) rfl (by rw [List.length_map, List.length_take]; omega) (fun d hd => by
      obtain ⟨r, _, rfl⟩ := List.mem_map.1 hd
      exact ⟨[.d (.tup (rs.map rD)), .d (.int i), .d (hD r.1), .d (.int r.2)], rfl, rfl, rfl⟩)
  rw [nD_map] at e
  have e' : m_ends_of_c1 [.d (.tup (rs.map rD)), .d (.int i), .no, .no] = .ok (((rs.take (i + 1)).map (·.2)).map D.int) [.d (.tup (rs.map rD)), .d (.int i), .no, .no] := e
  have es := sum_ints ((rs.take (i + 1)).map (·.2))
  rw [sumR_int] at es
  generalize ((rs.take (i + 1)).map (·.2)).map D.int = L at e' es
  simp [m_ends_of_e2, Lq.runF, Lq.runB, Lq.runL, Lq.boxAt, Lq.startR, Lq.seqS, Lq.nextS, Lq.ifS, Lq.asgS, Lq.asgM, Lq.asgG, Lq.retS, Lq.retF, Lq.dropS, Lq.forS, Lq.putItem, Lq.isMB, Lq.putS1, Lq.parS, Lq.consMd, Lq.consMf', Lq.noErr, Lq.nilM, Lq.setsR, Lq.nameE, Lq.constE, Lq.op1E, Lq.op2E, Lq.opNE, Lq.opNF, Lq.op2F, Lq.lift1, Lq.lift2, Lq.liftN, Lq.res, Lq.resAll, Lq.valT, Lq.notT, Lq.andT, Lq.orT, Lq.andE, Lq.orE, Lq.notE, Lq.ifE, Lq.consA, Lq.nilA, Lq.frzE, Lq.lstF, Lq.tupE, Lq.callE, Lq.callBE, Lq.callL, Lq.callNew, Lq.slotted, Lq.datAll, Lq.appE, Lq.popE, Lq.yesT, Lq.wipeR, Lq.backR, Lq.plainC, Lq.nameG, Lq.tupG, Lq.consG, Lq.nilG, Lq.seqI, Lq.rngI1, Lq.rngI2, Lq.enumI, Lq.zipI, Lq.isiE, Lq.slE, Lq.aPart, Lq.noPart, Lq.chainE, Lq.strM, Lq.orF, Lq.R.bind, Lq.R.thnO, Lq.raiseS, Lq.raise0S, Lq.tryS, Lq.hNil, Lq.hAs, Lq.goneS, Lq.enumA, Lq.enumK, Lq.ifF, Lq.permA, Lq.permL, Lq.D.noL, Lq.noLs, Lq.isEx, Lq.fldD, Lq.isErrD, Lq.itemsOf, Lq.onlyB, Lq.isB, Lq.D.flat, Lq.starA, Lq.extE, Lq.augS, Lq.ixTE, Lq.mvS, Lq.dfA, Lq.slotD, Lq.propD, Lq.mkE, Lq.mkE0, Lq.callNewN, Lq.isErrND, Lq.callME, Lq.isBD, Lq.addD, Lq.catF, Lq.subD, Lq.negD, Lq.ltD, Lq.leD, Lq.gtD, Lq.geD, Lq.eqD, Lq.neD, Lq.sameKind, Lq.isD, Lq.isntD, Lq.isNon, Lq.lenD, Lq.isiB, Lq.tyName, Lq.notObj, Lq.D.items?, Lq.fits, L2.atI, L2.ixN, e', es]
theorem okR_nat {n : Nat} (h : n < 1000000000) : okR (n : Int) = true := by
  unfold okR
  simp
  omega
theorem ends_ok {rs : List Rn} (h : rs.length ≤ 90000) : f_ends_of [.tup (rs.map rD)] = .ok (.tup ((endsR 0 rs).map D.int)) := by
  have e := compF_m (vs := [1]) (fi := rngI1 (consA (opNE lenD (consA (nameE 0) nilA)) nilA)) (gd := nameG 1) (fe := m_ends_of_e2) (ρ := [.d (.tup (rs.map rD)), .no, .no, .no]) (ρ0 := [.d (.tup (rs.map rD)), .no, .no, .no])
    (ds := rng 0 rs.length) (fun d => match d with | .int i => .int (sumR (rs.take (i.toNat + 1))) | x => x) (by simp [Lq.runF, Lq.runB, Lq.runL, Lq.boxAt, Lq.startR, Lq.seqS, Lq.nextS, Lq.ifS, Lq.asgS, Lq.asgM, Lq.asgG, Lq.retS, Lq.retF, Lq.dropS, Lq.forS, Lq.loopS, Lq.turnS, Lq.putItem, Lq.isMB, Lq.putS1, Lq.parS, Lq.consMd, Lq.consMf', Lq.noErr, Lq.nilM, Lq.setsR, Lq.nameE, Lq.constE, Lq.op1E, Lq.op2E, Lq.opNE, Lq.opNF, Lq.op2F, Lq.lift1, Lq.lift2, Lq.liftN, Lq.res, Lq.resAll, Lq.valT, Lq.notT, Lq.andT, Lq.orT, Lq.andE, Lq.orE, Lq.notE, Lq.ifE, Lq.consA, Lq.nilA, Lq.frzE, Lq.lstF, Lq.tupE, Lq.callE, Lq.callBE, Lq.callL, Lq.callNew, Lq.slotted, Lq.datAll, Lq.appE, Lq.popE, Lq.compF, Lq.compLoop, Lq.compTurn, Lq.yesT, Lq.wipeR, Lq.backR, Lq.plainC, Lq.nameG, Lq.tupG, Lq.consG, Lq.nilG, Lq.seqI, Lq.rngI1, Lq.rngI2, Lq.enumI, Lq.zipI, Lq.isiE, Lq.slE, Lq.aPart, Lq.noPart, Lq.chainE, Lq.strM, Lq.orF, Lq.R.bind, Lq.R.thnO, Lq.raiseS, Lq.raise0S, Lq.tryS, Lq.hNil, Lq.hAs, Lq.goneS, Lq.enumA, Lq.enumK, Lq.ifF, Lq.permA, Lq.permL, Lq.D.noL, Lq.noLs, Lq.isEx, Lq.fldD, Lq.isErrD, Lq.itemsOf, Lq.onlyB, Lq.isB, Lq.D.flat, Lq.starA, Lq.extE, Lq.augS, Lq.ixTE, Lq.mvS, Lq.dfA, Lq.slotD, Lq.propD, Lq.mkE, Lq.mkE0, Lq.callNewN, Lq.isErrND, Lq.callME, lenD, okR_nat (n := rs.length) (by omega)]) rfl (by rw [rng_len]; omega) (fun d hd => by
      obtain ⟨k, hk, rfl⟩ := rng_mem hd
      exact ⟨[.d (.tup (rs.map rD)), .d (.int k), .no, .no], rfl, by simpa using ends_turn (i := k) rfl h hk, rfl⟩)
  have er : ((rng 0 rs.length).map fun d => match d with | .int i => D.int (sumR (rs.take (i.toNat + 1))) | x => x) = (endsR 0 rs).map D.int := by
    unfold rng
    rw [endsR_at, List.map_map, List.map_map]
    refine List.map_congr_left fun i _ => ?_
    simp
  rw [er] at e
  have e' : m_ends_of_c2 [.d (.tup (rs.map rD)), .no, .no, .no] = .ok ((endsR 0 rs).map D.int) [.d (.tup (rs.map rD)), .no, .no, .no] := e
  generalize (endsR 0 rs).map D.int = L at e' ⊢
  simp [f_ends_of, m_ends_of, Lq.runF, Lq.runB, Lq.runL, Lq.boxAt, Lq.startR, Lq.seqS, Lq.nextS, Lq.ifS, Lq.asgS, Lq.asgM, Lq.asgG, Lq.retS, Lq.retF, Lq.dropS, Lq.forS, Lq.putItem, Lq.isMB, Lq.putS1, Lq.parS, Lq.consMd, Lq.consMf', Lq.noErr, Lq.nilM, Lq.setsR, Lq.nameE, Lq.constE, Lq.op1E, Lq.op2E, Lq.opNE, Lq.opNF, Lq.op2F, Lq.lift1, Lq.lift2, Lq.liftN, Lq.res, Lq.resAll, Lq.valT, Lq.notT, Lq.andT, Lq.orT, Lq.andE, Lq.orE, Lq.notE, Lq.ifE, Lq.consA, Lq.nilA, Lq.frzE, Lq.lstF, Lq.tupE, Lq.callE, Lq.callBE, Lq.callL, Lq.callNew, Lq.slotted, Lq.datAll, Lq.appE, Lq.popE, Lq.yesT, Lq.wipeR, Lq.backR, Lq.plainC, Lq.nameG, Lq.tupG, Lq.consG, Lq.nilG, Lq.seqI, Lq.rngI1, Lq.rngI2, Lq.enumI, Lq.zipI, Lq.isiE, Lq.slE, Lq.aPart, Lq.noPart, Lq.chainE, Lq.strM, Lq.orF, Lq.R.bind, Lq.R.thnO, Lq.raiseS, Lq.raise0S, Lq.tryS, Lq.hNil, Lq.hAs, Lq.goneS, Lq.enumA, Lq.enumK, Lq.ifF, Lq.permA, Lq.permL, Lq.D.noL, Lq.noLs, Lq.isEx, Lq.fldD, Lq.isErrD, Lq.itemsOf, Lq.onlyB, Lq.isB, Lq.D.flat, Lq.starA, Lq.extE, Lq.augS, Lq.ixTE, Lq.mvS, Lq.dfA, Lq.slotD, Lq.propD, Lq.mkE, Lq.mkE0, Lq.callNewN, Lq.isErrND, Lq.callME, Lq.isBD, Lq.addD, Lq.catF, Lq.subD, Lq.negD, Lq.ltD, Lq.leD, Lq.gtD, Lq.geD, Lq.eqD, Lq.neD, Lq.sameKind, Lq.isD, Lq.isntD, Lq.isNon, Lq.lenD, Lq.isiB, Lq.tyName, Lq.notObj, Lq.D.items?, Lq.fits, L2.atI, L2.ixN, e', tupleTD, tupleD]
/-! tupled -/
/-- what stands for these runs: a list or a tuple of pairs or of lists of two -/
def AsR (rs : List Rn) (x : D) : Prop := ∃ xs, x.items? = some xs ∧ xs.length = rs.length ∧ ∀ (i : Nat) (d : D) (r : Rn), xs[i]? = some d → rs[i]? = some r → d = rD r ∨ d = .lst [hD r.1, .int r.2]
theorem AsR.of {rs : List Rn} {x : D} (h : x.items? = some (rs.map rD)) : AsR rs x := ⟨_, h, by simp, fun i d r h1 h2 => by
  rw [List.getElem?_map, h2] at h1; exact .inl (Option.some.inj h1).symm⟩
theorem tupled_flat {n : Nat} {d : D} (h : (∃ b, d = hD b) ∨ ∃ i, d = .int i) : f_tupled (n + 1) [d] = .ok d := by
  rcases h with ⟨b, rfl⟩ | ⟨i, rfl⟩ <;> simp [f_tupled, m_tupled, Lq.runF, Lq.runB, Lq.runL, Lq.boxAt, Lq.startR, Lq.seqS, Lq.nextS, Lq.ifS, Lq.asgS, Lq.asgM, Lq.asgG, Lq.retS, Lq.retF, Lq.dropS, Lq.forS, Lq.putItem, Lq.isMB, Lq.putS1, Lq.parS, Lq.consMd, Lq.consMf', Lq.noErr, Lq.nilM, Lq.setsR, Lq.nameE, Lq.constE, Lq.op1E, Lq.op2E, Lq.opNE, Lq.opNF, Lq.op2F, Lq.lift1, Lq.lift2, Lq.liftN, Lq.res, Lq.resAll, Lq.valT, Lq.notT, Lq.andT, Lq.orT, Lq.andE, Lq.orE, Lq.notE, Lq.ifE, Lq.consA, Lq.nilA, Lq.frzE, Lq.lstF, Lq.tupE, Lq.callE, Lq.callBE, Lq.callL, Lq.callNew, Lq.slotted, Lq.datAll, Lq.appE, Lq.popE, Lq.yesT, Lq.wipeR, Lq.backR, Lq.plainC, Lq.nameG, Lq.tupG, Lq.consG, Lq.nilG, Lq.seqI, Lq.rngI1, Lq.rngI2, Lq.enumI, Lq.zipI, Lq.isiE, Lq.slE, Lq.aPart, Lq.noPart, Lq.chainE, Lq.strM, Lq.orF, Lq.R.bind, Lq.R.thnO, Lq.raiseS, Lq.raise0S, Lq.tryS, Lq.hNil, Lq.hAs, Lq.goneS, Lq.enumA, Lq.enumK, Lq.ifF, Lq.permA, Lq.permL, Lq.D.noL, Lq.noLs, Lq.isEx, Lq.fldD, Lq.isErrD, Lq.itemsOf, Lq.onlyB, Lq.isB, Lq.D.flat, Lq.starA, Lq.extE, Lq.augS, Lq.ixTE, Lq.mvS, Lq.dfA, Lq.slotD, Lq.propD, Lq.mkE, Lq.mkE0, Lq.callNewN, Lq.isErrND, Lq.callME, Lq.isBD, Lq.addD, Lq.catF, Lq.subD, Lq.negD, Lq.ltD, Lq.leD, Lq.gtD, Lq.geD, Lq.eqD, Lq.neD, Lq.sameKind, Lq.isD, Lq.isntD, Lq.isNon, Lq.lenD, Lq.isiB, Lq.tyName, Lq.notObj, Lq.D.items?, Lq.fits, L2.atI, L2.ixN, hD]
theorem tupled_step {n : Nat} {d : D} {xs : List D} (g : D → D) (hx : d.items? = some xs) (hl : xs.length ≤ 1000000) (h : ∀ y ∈ xs, f_tupled n [y] = .ok (g y)) : f_tupled (n + 1) [d] = .ok (.tup (xs.map g)) := by
  rw [f_tupled]
  generalize f_tupled n = self at h
  have e : m_tupled_c1 self [.d d, .no] = .ok (xs.map g) [.d d, .no] := compF_m (vs := [1]) (fi := seqI (nameE 0)) (gd := nameG 1) (fe := m_tupled_e1 self) g (items_seq hx rfl) rfl hl (fun y hy => ⟨[.d d, .d y], rfl, by simp [m_tupled_e1, Lq.runF, Lq.runB, Lq.runL, Lq.boxAt, Lq.startR, Lq.seqS, Lq.nextS, Lq.ifS, Lq.asgS, Lq.asgM, Lq.asgG, Lq.retS, Lq.retF, Lq.dropS, Lq.forS, Lq.loopS, Lq.turnS, Lq.putItem, Lq.isMB, Lq.putS1, Lq.parS, Lq.consMd, Lq.consMf', Lq.noErr, Lq.nilM, Lq.setsR, Lq.nameE, Lq.constE, Lq.op1E, Lq.op2E, Lq.opNE, Lq.opNF, Lq.op2F, Lq.lift1, Lq.lift2, Lq.liftN, Lq.res, Lq.resAll, Lq.valT, Lq.notT, Lq.andT, Lq.orT, Lq.andE, Lq.orE, Lq.notE, Lq.ifE, Lq.consA, Lq.nilA, Lq.frzE, Lq.lstF, Lq.tupE, Lq.callE, Lq.callBE, Lq.callL, Lq.callNew, Lq.slotted, Lq.datAll, Lq.appE, Lq.popE, Lq.compF, Lq.compLoop, Lq.compTurn, Lq.yesT, Lq.wipeR, Lq.backR, Lq.plainC, Lq.nameG, Lq.tupG, Lq.consG, Lq.nilG, Lq.seqI, Lq.rngI1, Lq.rngI2, Lq.enumI, Lq.zipI, Lq.isiE, Lq.slE, Lq.aPart, Lq.noPart, Lq.chainE, Lq.strM, Lq.orF, Lq.R.bind, Lq.R.thnO, Lq.raiseS, Lq.raise0S, Lq.tryS, Lq.hNil, Lq.hAs, Lq.goneS, Lq.enumA, Lq.enumK, Lq.ifF, Lq.permA, Lq.permL, Lq.D.noL, Lq.noLs, Lq.isEx, Lq.fldD, Lq.isErrD, Lq.itemsOf, Lq.onlyB, Lq.isB, Lq.D.flat, Lq.starA, Lq.extE, Lq.augS, Lq.ixTE, Lq.mvS, Lq.dfA, Lq.slotD, Lq.propD, Lq.mkE, Lq.mkE0, Lq.callNewN, Lq.isErrND, Lq.callME, h y hy], rfl⟩)
  generalize xs.map g = L at e ⊢
  cases d with
  | lst ys => simp [m_tupled, Lq.runF, Lq.runB, Lq.runL, Lq.boxAt, Lq.startR, Lq.seqS, Lq.nextS, Lq.ifS, Lq.asgS, Lq.asgM, Lq.asgG, Lq.retS, Lq.retF, Lq.dropS, Lq.forS, Lq.putItem, Lq.isMB, Lq.putS1, Lq.parS, Lq.consMd, Lq.consMf', Lq.noErr, Lq.nilM, Lq.setsR, Lq.nameE, Lq.constE, Lq.op1E, Lq.op2E, Lq.opNE, Lq.opNF, Lq.op2F, Lq.lift1, Lq.lift2, Lq.liftN, Lq.res, Lq.resAll, Lq.valT, Lq.notT, Lq.andT, Lq.orT, Lq.andE, Lq.orE, Lq.notE, Lq.ifE, Lq.consA, Lq.nilA, Lq.frzE, Lq.lstF, Lq.tupE, Lq.callE, Lq.callBE, Lq.callL, Lq.callNew, Lq.slotted, Lq.datAll, Lq.appE, Lq.popE, Lq.yesT, Lq.wipeR, Lq.backR, Lq.plainC, Lq.nameG, Lq.tupG, Lq.consG, Lq.nilG, Lq.seqI, Lq.rngI1, Lq.rngI2, Lq.enumI, Lq.zipI, Lq.isiE, Lq.slE, Lq.aPart, Lq.noPart, Lq.chainE, Lq.strM, Lq.orF, Lq.R.bind, Lq.R.thnO, Lq.raiseS, Lq.raise0S, Lq.tryS, Lq.hNil, Lq.hAs, Lq.goneS, Lq.enumA, Lq.enumK, Lq.ifF, Lq.permA, Lq.permL, Lq.D.noL, Lq.noLs, Lq.isEx, Lq.fldD, Lq.isErrD, Lq.itemsOf, Lq.onlyB, Lq.isB, Lq.D.flat, Lq.starA, Lq.extE, Lq.augS, Lq.ixTE, Lq.mvS, Lq.dfA, Lq.slotD, Lq.propD, Lq.mkE, Lq.mkE0, Lq.callNewN, Lq.isErrND, Lq.callME, Lq.isBD, Lq.addD, Lq.catF, Lq.subD, Lq.negD, Lq.ltD, Lq.leD, Lq.gtD, Lq.geD, Lq.eqD, Lq.neD, Lq.sameKind, Lq.isD, Lq.isntD, Lq.isNon, Lq.lenD, Lq.isiB, Lq.tyName, Lq.notObj, Lq.D.items?, Lq.fits, L2.atI, L2.ixN, e, tupleTD, tupleD]
  | tup ys => simp [m_tupled, Lq.runF, Lq.runB, Lq.runL, Lq.boxAt, Lq.startR, Lq.seqS, Lq.nextS, Lq.ifS, Lq.asgS, Lq.asgM, Lq.asgG, Lq.retS, Lq.retF, Lq.dropS, Lq.forS, Lq.putItem, Lq.isMB, Lq.putS1, Lq.parS, Lq.consMd, Lq.consMf', Lq.noErr, Lq.nilM, Lq.setsR, Lq.nameE, Lq.constE, Lq.op1E, Lq.op2E, Lq.opNE, Lq.opNF, Lq.op2F, Lq.lift1, Lq.lift2, Lq.liftN, Lq.res, Lq.resAll, Lq.valT, Lq.notT, Lq.andT, Lq.orT, Lq.andE, Lq.orE, Lq.notE, Lq.ifE, Lq.consA, Lq.nilA, Lq.frzE, Lq.lstF, Lq.tupE, Lq.callE, Lq.callBE, Lq.callL, Lq.callNew, Lq.slotted, Lq.datAll, Lq.appE, Lq.popE, Lq.yesT, Lq.wipeR, Lq.backR, Lq.plainC, Lq.nameG, Lq.tupG, Lq.consG, Lq.nilG, Lq.seqI, Lq.rngI1, Lq.rngI2, Lq.enumI, Lq.zipI, Lq.isiE, Lq.slE, Lq.aPart, Lq.noPart, Lq.chainE, Lq.strM, Lq.orF, Lq.R.bind, Lq.R.thnO, Lq.raiseS, Lq.raise0S, Lq.tryS, Lq.hNil, Lq.hAs, Lq.goneS, Lq.enumA, Lq.enumK, Lq.ifF, Lq.permA, Lq.permL, Lq.D.noL, Lq.noLs, Lq.isEx, Lq.fldD, Lq.isErrD, Lq.itemsOf, Lq.onlyB, Lq.isB, Lq.D.flat, Lq.starA, Lq.extE, Lq.augS, Lq.ixTE, Lq.mvS, Lq.dfA, Lq.slotD, Lq.propD, Lq.mkE, Lq.mkE0, Lq.callNewN, Lq.isErrND, Lq.callME, Lq.isBD, Lq.addD, Lq.catF, Lq.subD, Lq.negD, Lq.ltD, Lq.leD, Lq.gtD, Lq.geD, Lq.eqD, Lq.neD, Lq.sameKind, Lq.isD, Lq.isntD, Lq.isNon, Lq.lenD, Lq.isiB, Lq.tyName, Lq.notObj, Lq.D.items?, Lq.fits, L2.atI, L2.ixN, e, tupleTD, tupleD]
  | _ => cases hx
theorem tupled_pair {n : Nat} {r : Rn} {d : D} (h : d = rD r ∨ d = .lst [hD r.1, .int r.2]) : f_tupled (n + 2) [d] = .ok (rD r) := by
  have hx : d.items? = some [hD r.1, .int r.2] := by rcases h with rfl | rfl <;> rfl
  have e := tupled_step (n := n + 1) id hx (by simp) (fun y hy => by
    rcases List.mem_cons.1 hy with rfl | hy
    · exact tupled_flat (.inl ⟨_, rfl⟩)
    · rw [List.mem_singleton.1 hy]; exact tupled_flat (.inr ⟨_, rfl⟩))
  rw [e, List.map_id]; rfl
theorem tupled_ok {rs : List Rn} {x : D} (h : AsR rs x) (hl : rs.length ≤ 90000) : f_tupled 8 [x] = .ok (.tup (rs.map rD)) := by
  obtain ⟨xs, hx, hn, ha⟩ := h
  have e := tupled_step (n := 7) (fun d => match d with | .lst ys => .tup ys | y => y) hx (by omega) (fun y hy => by
    obtain ⟨i, hi, rfl⟩ := List.getElem_of_mem hy
    have hi' : i < rs.length := by omega
    have z := ha i _ _ (List.getElem?_eq_getElem hi) (List.getElem?_eq_getElem hi')
    rw [tupled_pair (n := 5) z]
    rcases z with z | z <;> rw [z] <;> rfl)
  rw [e]
  congr 2
  refine List.ext_getElem (by simpa using hn) fun i h1 h2 => ?_
  rw [List.getElem_map, List.getElem_map]
  rcases ha i _ _ (List.getElem?_eq_getElem (by simpa using h1)) (List.getElem?_eq_getElem (by simpa using h2)) with z | z <;> rw [z] <;> rfl
/-! __init__ -/
theorem in_heirs (b : Bool) : ninD (hD b) (.tup [.str "a", .str "b"]) = some (.bl false) := by
  have e := nin_strs (x := .tup [.str "a", .str "b"]) (ws := ["a", "b"]) rfl (hS b)
  have : decide (hS b ∈ (["a", "b"] : List Str)) = true := by cases b <;> decide
  rw [this] at e
  exact e
theorem init_turn {x : D} {rs : List Rn} {i : Nat} {r : Rn} {c3 c4 c5 : Cell} (h : 0 < r.2) : turnS m_T_init_g1 m_T_init_b1 (.tup [.int (i : Nat), rD r]) [.s 20, .d x, .d (.tup (rs.map rD)), c3, c4, c5] = .nx [.s 20, .d x, .d (.tup (rs.map rD)), .d (.int i), .d (hD r.1), .d (.int r.2)] := by
  have e := in_heirs r.1
  have h2 : ¬ r.2 < 1 := by omega
  simp [turnS, m_T_init_g1, m_T_init_b1, Lq.runF, Lq.runB, Lq.runL, Lq.boxAt, Lq.startR, Lq.seqS, Lq.nextS, Lq.ifS, Lq.asgS, Lq.asgM, Lq.asgG, Lq.retS, Lq.retF, Lq.dropS, Lq.forS, Lq.putItem, Lq.isMB, Lq.putS1, Lq.parS, Lq.consMd, Lq.consMf', Lq.noErr, Lq.nilM, Lq.setsR, Lq.nameE, Lq.constE, Lq.op1E, Lq.op2E, Lq.opNE, Lq.opNF, Lq.op2F, Lq.lift1, Lq.lift2, Lq.liftN, Lq.res, Lq.resAll, Lq.valT, Lq.notT, Lq.andT, Lq.orT, Lq.andE, Lq.orE, Lq.notE, Lq.ifE, Lq.consA, Lq.nilA, Lq.frzE, Lq.lstF, Lq.tupE, Lq.callE, Lq.callBE, Lq.callL, Lq.callNew, Lq.slotted, Lq.datAll, Lq.appE, Lq.popE, Lq.yesT, Lq.wipeR, Lq.backR, Lq.plainC, Lq.nameG, Lq.tupG, Lq.consG, Lq.nilG, Lq.seqI, Lq.rngI1, Lq.rngI2, Lq.enumI, Lq.zipI, Lq.isiE, Lq.slE, Lq.aPart, Lq.noPart, Lq.chainE, Lq.strM, Lq.orF, Lq.R.bind, Lq.R.thnO, Lq.raiseS, Lq.raise0S, Lq.tryS, Lq.hNil, Lq.hAs, Lq.goneS, Lq.enumA, Lq.enumK, Lq.ifF, Lq.permA, Lq.permL, Lq.D.noL, Lq.noLs, Lq.isEx, Lq.fldD, Lq.isErrD, Lq.itemsOf, Lq.onlyB, Lq.isB, Lq.D.flat, Lq.starA, Lq.extE, Lq.augS, Lq.ixTE, Lq.mvS, Lq.dfA, Lq.slotD, Lq.propD, Lq.mkE, Lq.mkE0, Lq.callNewN, Lq.isErrND, Lq.callME, Lq.isBD, Lq.addD, Lq.catF, Lq.subD, Lq.negD, Lq.ltD, Lq.leD, Lq.gtD, Lq.geD, Lq.eqD, Lq.neD, Lq.sameKind, Lq.isD, Lq.isntD, Lq.isNon, Lq.lenD, Lq.isiB, Lq.tyName, Lq.notObj, Lq.D.items?, Lq.fits, L2.atI, L2.ixN, rD, e, h2]
theorem init_loop {x : D} {rs : List Rn} : ∀ (qs : List Rn) (i : Nat) (c3 c4 c5 : Cell), (∀ r ∈ qs, 0 < r.2) → ∃ c3' c4' c5', loopS (turnS m_T_init_g1 m_T_init_b1) (((qs.map rD).zipIdx i).map fun p => D.tup [.int (p.2 : Nat), p.1]) [.s 20, .d x, .d (.tup (rs.map rD)), c3, c4, c5] = .nx [.s 20, .d x, .d (.tup (rs.map rD)), c3', c4', c5']
  | [], i, c3, c4, c5, _ => ⟨c3, c4, c5, rfl⟩
  | q :: qs, i, c3, c4, c5, h => by
    obtain ⟨a, b, c, e⟩ := init_loop qs (i + 1) (.d (.int i)) (.d (hD q.1)) (.d (.int q.2)) fun r hr => h r (List.mem_cons_of_mem _ hr)
    refine ⟨a, b, c, ?_⟩
    rw [List.map_cons, List.zipIdx_cons, List.map_cons, loopS, init_turn (h q List.mem_cons_self)]
    exact e
theorem foldl_len : ∀ (rs acc : List Rn), (rs.foldl addR acc).length ≤ acc.length + rs.length
  | [], acc => by simp
  | r :: rs, acc => by
    have := foldl_len rs (addR acc r)
    have := addR_len acc r
    simp only [List.foldl_cons, List.length_cons]; omega
theorem joinR_len (rs : List Rn) : (joinR rs).length ≤ rs.length := by have := foldl_len rs []; simpa [joinR] using this
theorem init_ok {rs : List Rn} {x : D} (h : AsR rs x) (hl : rs.length ≤ 90000) (hp : ∀ r ∈ rs, 0 < r.2) : f_T_init [x] = .ok (TD (joinR rs)) := by
  obtain ⟨a, b, c, e⟩ := init_loop (x := x) (rs := rs) rs 0 .no .no .no hp
  have e1 : m_T_init_s1 [.s 20, .d x, .no, .no, .no, .no] = .nx [.s 20, .d x, .d (.tup (rs.map rD)), .no, .no, .no] := by
    simp [m_T_init_s1, Lq.runF, Lq.runB, Lq.runL, Lq.boxAt, Lq.startR, Lq.seqS, Lq.nextS, Lq.ifS, Lq.asgS, Lq.asgM, Lq.asgG, Lq.retS, Lq.retF, Lq.dropS, Lq.forS, Lq.loopS, Lq.turnS, Lq.putItem, Lq.isMB, Lq.putS1, Lq.parS, Lq.consMd, Lq.consMf', Lq.noErr, Lq.nilM, Lq.setsR, Lq.nameE, Lq.constE, Lq.op1E, Lq.op2E, Lq.opNE, Lq.opNF, Lq.op2F, Lq.lift1, Lq.lift2, Lq.liftN, Lq.res, Lq.resAll, Lq.valT, Lq.notT, Lq.andT, Lq.orT, Lq.andE, Lq.orE, Lq.notE, Lq.ifE, Lq.consA, Lq.nilA, Lq.frzE, Lq.lstF, Lq.tupE, Lq.callE, Lq.callBE, Lq.callL, Lq.callNew, Lq.slotted, Lq.datAll, Lq.appE, Lq.popE, Lq.compF, Lq.compLoop, Lq.compTurn, Lq.yesT, Lq.wipeR, Lq.backR, Lq.plainC, Lq.nameG, Lq.tupG, Lq.consG, Lq.nilG, Lq.seqI, Lq.rngI1, Lq.rngI2, Lq.enumI, Lq.zipI, Lq.isiE, Lq.slE, Lq.aPart, Lq.noPart, Lq.chainE, Lq.strM, Lq.orF, Lq.R.bind, Lq.R.thnO, Lq.raiseS, Lq.raise0S, Lq.tryS, Lq.hNil, Lq.hAs, Lq.goneS, Lq.enumA, Lq.enumK, Lq.ifF, Lq.permA, Lq.permL, Lq.D.noL, Lq.noLs, Lq.isEx, Lq.fldD, Lq.isErrD, Lq.itemsOf, Lq.onlyB, Lq.isB, Lq.D.flat, Lq.starA, Lq.extE, Lq.augS, Lq.ixTE, Lq.mvS, Lq.dfA, Lq.slotD, Lq.propD, Lq.mkE, Lq.mkE0, Lq.callNewN, Lq.isErrND, Lq.callME, tupled_ok h hl]
  have e2 : m_T_init_s2 [.s 20, .d x, .d (.tup (rs.map rD)), .no, .no, .no] = .nx [.s 20, .d x, .d (.tup (rs.map rD)), a, b, c] := by
    simp only [m_T_init_s2, m_T_init_l1, forS, items_enum (x := .tup (rs.map rD)) (i := 2) (ρ := [.s 20, .d x, .d (.tup (rs.map rD)), .no, .no, .no]) rfl rfl, R.thnO]
    exact e
  have e3 := joined_ok (x := .tup (rs.map rD)) rfl hl
  have e4 := ends_ok (rs := joinR rs) (Nat.le_trans (joinR_len rs) hl)
  simp [f_T_init, initT, startR, seqS, e1, e2, isS, callE, consA, nilA, nameE, R.bind, resAll, res, slotted, e3, e4, TD]
/-! its properties -/
theorem runs_ok (rs : List Rn) : f_T_runs [TD rs] = .ok (.tup (rs.map rD)) := by simp [f_T_runs, m_T_runs, Lq.runF, Lq.runB, Lq.runL, Lq.boxAt, Lq.startR, Lq.seqS, Lq.nextS, Lq.ifS, Lq.asgS, Lq.asgM, Lq.asgG, Lq.retS, Lq.retF, Lq.dropS, Lq.forS, Lq.putItem, Lq.isMB, Lq.putS1, Lq.parS, Lq.consMd, Lq.consMf', Lq.noErr, Lq.nilM, Lq.setsR, Lq.nameE, Lq.constE, Lq.op1E, Lq.op2E, Lq.opNE, Lq.opNF, Lq.op2F, Lq.lift1, Lq.lift2, Lq.liftN, Lq.res, Lq.resAll, Lq.valT, Lq.notT, Lq.andT, Lq.orT, Lq.andE, Lq.orE, Lq.notE, Lq.ifE, Lq.consA, Lq.nilA, Lq.frzE, Lq.lstF, Lq.tupE, Lq.callE, Lq.callBE, Lq.callL, Lq.callNew, Lq.slotted, Lq.datAll, Lq.appE, Lq.popE, Lq.yesT, Lq.wipeR, Lq.backR, Lq.plainC, Lq.nameG, Lq.tupG, Lq.consG, Lq.nilG, Lq.seqI, Lq.rngI1, Lq.rngI2, Lq.enumI, Lq.zipI, Lq.isiE, Lq.slE, Lq.aPart, Lq.noPart, Lq.chainE, Lq.strM, Lq.orF, Lq.R.bind, Lq.R.thnO, Lq.raiseS, Lq.raise0S, Lq.tryS, Lq.hNil, Lq.hAs, Lq.goneS, Lq.enumA, Lq.enumK, Lq.ifF, Lq.permA, Lq.permL, Lq.D.noL, Lq.noLs, Lq.isEx, Lq.fldD, Lq.isErrD, Lq.itemsOf, Lq.onlyB, Lq.isB, Lq.D.flat, Lq.starA, Lq.extE, Lq.augS, Lq.ixTE, Lq.mvS, Lq.dfA, Lq.slotD, Lq.propD, Lq.mkE, Lq.mkE0, Lq.callNewN, Lq.isErrND, Lq.callME, Lq.isBD, Lq.addD, Lq.catF, Lq.subD, Lq.negD, Lq.ltD, Lq.leD, Lq.gtD, Lq.geD, Lq.eqD, Lq.neD, Lq.sameKind, Lq.isD, Lq.isntD, Lq.isNon, Lq.lenD, Lq.isiB, Lq.tyName, Lq.notObj, Lq.D.items?, Lq.fits, L2.atI, L2.ixN, TD]
theorem tends_ok (rs : List Rn) : f_T_ends [TD rs] = .ok (.tup ((endsR 0 rs).map D.int)) := by simp [f_T_ends, m_T_ends, Lq.runF, Lq.runB, Lq.runL, Lq.boxAt, Lq.startR, Lq.seqS, Lq.nextS, Lq.ifS, Lq.asgS, Lq.asgM, Lq.asgG, Lq.retS, Lq.retF, Lq.dropS, Lq.forS, Lq.putItem, Lq.isMB, Lq.putS1, Lq.parS, Lq.consMd, Lq.consMf', Lq.noErr, Lq.nilM, Lq.setsR, Lq.nameE, Lq.constE, Lq.op1E, Lq.op2E, Lq.opNE, Lq.opNF, Lq.op2F, Lq.lift1, Lq.lift2, Lq.liftN, Lq.res, Lq.resAll, Lq.valT, Lq.notT, Lq.andT, Lq.orT, Lq.andE, Lq.orE, Lq.notE, Lq.ifE, Lq.consA, Lq.nilA, Lq.frzE, Lq.lstF, Lq.tupE, Lq.callE, Lq.callBE, Lq.callL, Lq.callNew, Lq.slotted, Lq.datAll, Lq.appE, Lq.popE, Lq.yesT, Lq.wipeR, Lq.backR, Lq.plainC, Lq.nameG, Lq.tupG, Lq.consG, Lq.nilG, Lq.seqI, Lq.rngI1, Lq.rngI2, Lq.enumI, Lq.zipI, Lq.isiE, Lq.slE, Lq.aPart, Lq.noPart, Lq.chainE, Lq.strM, Lq.orF, Lq.R.bind, Lq.R.thnO, Lq.raiseS, Lq.raise0S, Lq.tryS, Lq.hNil, Lq.hAs, Lq.goneS, Lq.enumA, Lq.enumK, Lq.ifF, Lq.permA, Lq.permL, Lq.D.noL, Lq.noLs, Lq.isEx, Lq.fldD, Lq.isErrD, Lq.itemsOf, Lq.onlyB, Lq.isB, Lq.D.flat, Lq.starA, Lq.extE, Lq.augS, Lq.ixTE, Lq.mvS, Lq.dfA, Lq.slotD, Lq.propD, Lq.mkE, Lq.mkE0, Lq.callNewN, Lq.isErrND, Lq.callME, Lq.isBD, Lq.addD, Lq.catF, Lq.subD, Lq.negD, Lq.ltD, Lq.leD, Lq.gtD, Lq.geD, Lq.eqD, Lq.neD, Lq.sameKind, Lq.isD, Lq.isntD, Lq.isNon, Lq.lenD, Lq.isiB, Lq.tyName, Lq.notObj, Lq.D.items?, Lq.fits, L2.atI, L2.ixN, TD]
theorem size_ok {rs : List Rn} (h : rs.length ≤ 90000) : f_T_size [TD rs] = .ok (.int (sumR rs)) := by
  have e := compF_m (vs := [1, 2]) (fi := seqI (op1E (slotD 20 1) (nameE 0))) (gd := tupG 2 (consG (nameG 1) (consG (nameG 2) nilG))) (fe := m_T_size_e1) (ρ := [.d (TD rs), .no, .no]) (ρ0 := [.d (TD rs), .no, .no])
    (ds := rs.map rD) nD (by simp [Lq.runF, Lq.runB, Lq.runL, Lq.boxAt, Lq.startR, Lq.seqS, Lq.nextS, Lq.ifS, Lq.asgS, Lq.asgM, Lq.asgG, Lq.retS, Lq.retF, Lq.dropS, Lq.forS, Lq.loopS, Lq.turnS, Lq.putItem, Lq.isMB, Lq.putS1, Lq.parS, Lq.consMd, Lq.consMf', Lq.noErr, Lq.nilM, Lq.setsR, Lq.nameE, Lq.constE, Lq.op1E, Lq.op2E, Lq.opNE, Lq.opNF, Lq.op2F, Lq.lift1, Lq.lift2, Lq.liftN, Lq.res, Lq.resAll, Lq.valT, Lq.notT, Lq.andT, Lq.orT, Lq.andE, Lq.orE, Lq.notE, Lq.ifE, Lq.consA, Lq.nilA, Lq.frzE, Lq.lstF, Lq.tupE, Lq.callE, Lq.callBE, Lq.callL, Lq.callNew, Lq.slotted, Lq.datAll, Lq.appE, Lq.popE, Lq.compF, Lq.compLoop, Lq.compTurn, Lq.yesT, Lq.wipeR, Lq.backR, Lq.plainC, Lq.nameG, Lq.tupG, Lq.consG, Lq.nilG, Lq.seqI, Lq.rngI1, Lq.rngI2, Lq.enumI, Lq.zipI, Lq.isiE, Lq.slE, Lq.aPart, Lq.noPart, Lq.chainE, Lq.strM, Lq.orF, Lq.R.bind, Lq.R.thnO, Lq.raiseS, Lq.raise0S, Lq.tryS, Lq.hNil, Lq.hAs, Lq.goneS, Lq.enumA, Lq.enumK, Lq.ifF, Lq.permA, Lq.permL, Lq.D.noL, Lq.noLs, Lq.isEx, Lq.fldD, Lq.isErrD, Lq.itemsOf, Lq.onlyB, Lq.isB, Lq.D.flat, Lq.starA, Lq.extE, Lq.augS, Lq.ixTE, Lq.mvS, Lq.dfA, Lq.slotD, Lq.propD, Lq.mkE, Lq.mkE0, Lq.callNewN, Lq.isErrND, Lq.callME, TD]) rfl (by rw [List.length_map]; omega) (fun d hd => by
      obtain ⟨r, _, rfl⟩ := List.mem_map.1 hd
      exact ⟨[.d (TD rs), .d (hD r.1), .d (.int r.2)], rfl, rfl, rfl⟩)
  rw [nD_map] at e
  have e' : m_T_size_c1 [.d (TD rs), .no, .no] = .ok ((rs.map (·.2)).map D.int) [.d (TD rs), .no, .no] := e
  have es := sum_ints (rs.map (·.2))
  rw [sumR_int] at es
  generalize (rs.map (·.2)).map D.int = L at e' es
  simp [f_T_size, m_T_size, Lq.runF, Lq.runB, Lq.runL, Lq.boxAt, Lq.startR, Lq.seqS, Lq.nextS, Lq.ifS, Lq.asgS, Lq.asgM, Lq.asgG, Lq.retS, Lq.retF, Lq.dropS, Lq.forS, Lq.putItem, Lq.isMB, Lq.putS1, Lq.parS, Lq.consMd, Lq.consMf', Lq.noErr, Lq.nilM, Lq.setsR, Lq.nameE, Lq.constE, Lq.op1E, Lq.op2E, Lq.opNE, Lq.opNF, Lq.op2F, Lq.lift1, Lq.lift2, Lq.liftN, Lq.res, Lq.resAll, Lq.valT, Lq.notT, Lq.andT, Lq.orT, Lq.andE, Lq.orE, Lq.notE, Lq.ifE, Lq.consA, Lq.nilA, Lq.frzE, Lq.lstF, Lq.tupE, Lq.callE, Lq.callBE, Lq.callL, Lq.callNew, Lq.slotted, Lq.datAll, Lq.appE, Lq.popE, Lq.yesT, Lq.wipeR, Lq.backR, Lq.plainC, Lq.nameG, Lq.tupG, Lq.consG, Lq.nilG, Lq.seqI, Lq.rngI1, Lq.rngI2, Lq.enumI, Lq.zipI, Lq.isiE, Lq.slE, Lq.aPart, Lq.noPart, Lq.chainE, Lq.strM, Lq.orF, Lq.R.bind, Lq.R.thnO, Lq.raiseS, Lq.raise0S, Lq.tryS, Lq.hNil, Lq.hAs, Lq.goneS, Lq.enumA, Lq.enumK, Lq.ifF, Lq.permA, Lq.permL, Lq.D.noL, Lq.noLs, Lq.isEx, Lq.fldD, Lq.isErrD, Lq.itemsOf, Lq.onlyB, Lq.isB, Lq.D.flat, Lq.starA, Lq.extE, Lq.augS, Lq.ixTE, Lq.mvS, Lq.dfA, Lq.slotD, Lq.propD, Lq.mkE, Lq.mkE0, Lq.callNewN, Lq.isErrND, Lq.callME, Lq.isBD, Lq.addD, Lq.catF, Lq.subD, Lq.negD, Lq.ltD, Lq.leD, Lq.gtD, Lq.geD, Lq.eqD, Lq.neD, Lq.sameKind, Lq.isD, Lq.isntD, Lq.isNon, Lq.lenD, Lq.isiB, Lq.tyName, Lq.notObj, Lq.D.items?, Lq.fits, L2.atI, L2.ixN, e', es]
theorem p_runs (rs : List Rn) : propD 20 f_T_runs (TD rs) = some (.tup (rs.map rD)) := by
  show (if 20 = 20 then (match f_T_runs [TD rs] with | .ok d => some d | _ => none) else none) = _
  rw [if_pos rfl, runs_ok]
theorem p_ends (rs : List Rn) : propD 20 f_T_ends (TD rs) = some (.tup ((endsR 0 rs).map D.int)) := by
  show (if 20 = 20 then (match f_T_ends [TD rs] with | .ok d => some d | _ => none) else none) = _
  rw [if_pos rfl, tends_ok]
theorem p_size {rs : List Rn} (h : rs.length ≤ 90000) : propD 20 f_T_size (TD rs) = some (.int (sumR rs)) := by
  show (if 20 = 20 then (match f_T_size [TD rs] with | .ok d => some d | _ => none) else none) = _
  rw [if_pos rfl, size_ok h]
end
section
theorem noLs_map {α : Type} (f : α → D) (h : ∀ a, (f a).noL = true) : ∀ l : List α, noLs (l.map f) = true
  | [] => rfl
  | a :: l => by rw [List.map_cons, noLs, h a, noLs_map f h l]; rfl
theorem TD_noL (rs : List Rn) : (TD rs).noL = true := by
  have h1 : noLs ((endsR 0 rs).map D.int) = true := noLs_map D.int (fun _ => rfl) _
  have h2 : noLs (rs.map rD) = true := noLs_map rD (fun _ => rfl) _
  simp [TD, D.noL, noLs, h1, h2]
/-! ### first_part, rest_of -/
end
section
/-! ### swapped, heirs, turns_of, turns[n] -/
def swp (r : Rn) : Rn := (!r.1, r.2)
def swpD : D → D | .tup [.str h, n] => .tup [.str (if h == ("a" : Str) then "b" else "a"), n] | x => x
theorem swpD_rD (r : Rn) : swpD (rD r) = rD (swp r) := by
  obtain ⟨b, n⟩ := r
  cases b
  · show D.tup [.str (if ((hS false) == ("a" : Str)) = true then "b" else "a"), .int n] = _
    rw [if_neg (by decide)]; rfl
  · show D.tup [.str (if ((hS true) == ("a" : Str)) = true then "b" else "a"), .int n] = _
    rw [if_pos (by decide)]; rfl
theorem swapped_ok {rs : List Rn} (h : rs.length ≤ 90000) (hp : ∀ r ∈ rs, 0 < r.2) : f_swapped [TD rs] = .ok (TD (joinR (rs.map swp))) := by
  have e := compF_m (vs := [1, 2]) (fi := seqI (op1E (propD 20 f_T_runs) (nameE 0))) (gd := tupG 2 (consG (nameG 1) (consG (nameG 2) nilG))) (fe := m_swapped_e1) (ρ := [.d (TD rs), .no, .no]) (ρ0 := [.d (TD rs), .no, .no])
    (ds := rs.map rD) swpD (by simp only [seqI, op1E, lift1, nameE, R.bind, res, p_runs, List.getElem?_cons_zero, itemsOf]) rfl (by rw [List.length_map]; omega) (fun d hd => by
      obtain ⟨r, _, rfl⟩ := List.mem_map.1 hd
      refine ⟨[.d (TD rs), .d (hD r.1), .d (.int r.2)], rfl, ?_, rfl⟩
      cases hb : (hS r.1 == ("a" : Str)) <;> simp [m_swapped_e1, Lq.runF, Lq.runB, Lq.runL, Lq.boxAt, Lq.startR, Lq.seqS, Lq.nextS, Lq.ifS, Lq.asgS, Lq.asgM, Lq.asgG, Lq.retS, Lq.retF, Lq.dropS, Lq.forS, Lq.putItem, Lq.isMB, Lq.putS1, Lq.parS, Lq.consMd, Lq.consMf', Lq.noErr, Lq.nilM, Lq.setsR, Lq.nameE, Lq.constE, Lq.op1E, Lq.op2E, Lq.opNE, Lq.opNF, Lq.op2F, Lq.lift1, Lq.lift2, Lq.liftN, Lq.res, Lq.resAll, Lq.valT, Lq.notT, Lq.andT, Lq.orT, Lq.andE, Lq.orE, Lq.notE, Lq.ifE, Lq.consA, Lq.nilA, Lq.frzE, Lq.lstF, Lq.tupE, Lq.callE, Lq.callBE, Lq.callL, Lq.callNew, Lq.slotted, Lq.datAll, Lq.appE, Lq.popE, Lq.yesT, Lq.wipeR, Lq.backR, Lq.plainC, Lq.nameG, Lq.tupG, Lq.consG, Lq.nilG, Lq.seqI, Lq.rngI1, Lq.rngI2, Lq.enumI, Lq.zipI, Lq.isiE, Lq.slE, Lq.aPart, Lq.noPart, Lq.chainE, Lq.strM, Lq.orF, Lq.R.bind, Lq.R.thnO, Lq.raiseS, Lq.raise0S, Lq.tryS, Lq.hNil, Lq.hAs, Lq.goneS, Lq.enumA, Lq.enumK, Lq.ifF, Lq.permA, Lq.permL, Lq.D.noL, Lq.noLs, Lq.isEx, Lq.fldD, Lq.isErrD, Lq.itemsOf, Lq.onlyB, Lq.isB, Lq.D.flat, Lq.starA, Lq.extE, Lq.augS, Lq.ixTE, Lq.mvS, Lq.dfA, Lq.slotD, Lq.propD, Lq.mkE, Lq.mkE0, Lq.callNewN, Lq.isErrND, Lq.callME, Lq.isBD, Lq.addD, Lq.catF, Lq.subD, Lq.negD, Lq.ltD, Lq.leD, Lq.gtD, Lq.geD, Lq.eqD, Lq.neD, Lq.sameKind, Lq.isD, Lq.isntD, Lq.isNon, Lq.lenD, Lq.isiB, Lq.tyName, Lq.notObj, Lq.D.items?, Lq.fits, L2.atI, L2.ixN, hD, deq, hb, rD, swpD])
  have em : (rs.map rD).map swpD = (rs.map swp).map rD := by
    rw [List.map_map, List.map_map]; exact List.map_congr_left fun r _ => swpD_rD r
  rw [em] at e
  have e' : m_swapped_c1 [.d (TD rs), .no, .no] = .ok ((rs.map swp).map rD) [.d (TD rs), .no, .no] := e
  have hi := init_ok (AsR.of (rs := rs.map swp) (x := .lst ((rs.map swp).map rD)) rfl) (by simpa using h) (fun r hr => by
    obtain ⟨q, hq, rfl⟩ := List.mem_map.1 hr
    exact hp q hq)
  generalize (rs.map swp).map rD = L at e' hi
  simp [f_swapped, m_swapped, Lq.runF, Lq.runB, Lq.runL, Lq.boxAt, Lq.startR, Lq.seqS, Lq.nextS, Lq.ifS, Lq.asgS, Lq.asgM, Lq.asgG, Lq.retS, Lq.retF, Lq.dropS, Lq.forS, Lq.putItem, Lq.isMB, Lq.putS1, Lq.parS, Lq.consMd, Lq.consMf', Lq.noErr, Lq.nilM, Lq.setsR, Lq.nameE, Lq.constE, Lq.op1E, Lq.op2E, Lq.opNE, Lq.opNF, Lq.op2F, Lq.lift1, Lq.lift2, Lq.liftN, Lq.res, Lq.resAll, Lq.valT, Lq.notT, Lq.andT, Lq.orT, Lq.andE, Lq.orE, Lq.notE, Lq.ifE, Lq.consA, Lq.nilA, Lq.frzE, Lq.lstF, Lq.tupE, Lq.callE, Lq.callBE, Lq.callL, Lq.callNew, Lq.slotted, Lq.datAll, Lq.appE, Lq.popE, Lq.yesT, Lq.wipeR, Lq.backR, Lq.plainC, Lq.nameG, Lq.tupG, Lq.consG, Lq.nilG, Lq.seqI, Lq.rngI1, Lq.rngI2, Lq.enumI, Lq.zipI, Lq.isiE, Lq.slE, Lq.aPart, Lq.noPart, Lq.chainE, Lq.strM, Lq.orF, Lq.R.bind, Lq.R.thnO, Lq.raiseS, Lq.raise0S, Lq.tryS, Lq.hNil, Lq.hAs, Lq.goneS, Lq.enumA, Lq.enumK, Lq.ifF, Lq.permA, Lq.permL, Lq.D.noL, Lq.noLs, Lq.isEx, Lq.fldD, Lq.isErrD, Lq.itemsOf, Lq.onlyB, Lq.isB, Lq.D.flat, Lq.starA, Lq.extE, Lq.augS, Lq.ixTE, Lq.mvS, Lq.dfA, Lq.slotD, Lq.propD, Lq.mkE, Lq.mkE0, Lq.callNewN, Lq.isErrND, Lq.callME, Lq.isBD, Lq.addD, Lq.catF, Lq.subD, Lq.negD, Lq.ltD, Lq.leD, Lq.gtD, Lq.geD, Lq.eqD, Lq.neD, Lq.sameKind, Lq.isD, Lq.isntD, Lq.isNon, Lq.lenD, Lq.isiB, Lq.tyName, Lq.notObj, Lq.D.items?, Lq.fits, L2.atI, L2.ixN, -Lq.D.noL, e', hi, TD_noL]
def flatR : List Rn → List Bool
  | [] => []
  | r :: rs => List.replicate r.2.toNat r.1 ++ flatR rs
end
section
/-! ### turns[n], exchanged -/
theorem addR_pos {acc : List Rn} {r : Rn} (ha : ∀ q ∈ acc, 0 < q.2) (hr : 0 < r.2) : ∀ q ∈ addR acc r, 0 < q.2 := by
  rcases snoc_cases acc with rfl | ⟨acc, l, rfl⟩
  · intro q hq; simp [addR] at hq; subst hq; exact hr
  · rw [addR_snoc]
    have hl := ha l (by simp)
    intro q hq
    split at hq
    · rcases List.mem_append.1 hq with h | h
      · exact ha q (by simp [h])
      · simp at h; subst h; show 0 < l.2 + r.2; omega
    · rcases List.mem_append.1 hq with h | h
      · exact ha q (by simp [h])
      · simp at h; rcases h with rfl | rfl
        · exact hl
        · exact hr
theorem foldl_pos : ∀ (rs acc : List Rn), (∀ q ∈ acc, 0 < q.2) → (∀ q ∈ rs, 0 < q.2) → ∀ q ∈ rs.foldl addR acc, 0 < q.2
  | [], _, ha, _ => ha
  | r :: rs, acc, ha, hr => foldl_pos rs (addR acc r) (addR_pos ha (hr r List.mem_cons_self)) fun q hq => hr q (List.mem_cons_of_mem _ hq)
theorem joinR_pos {rs : List Rn} (h : ∀ q ∈ rs, 0 < q.2) : ∀ q ∈ joinR rs, 0 < q.2 := foldl_pos rs [] (fun q hq => by cases hq) h
end
section
/-! ### next_above, next_below -/
theorem hb_eq (b : Bool) : (hS b == ("b" : Str)) = !b := by cases b <;> decide
end
section
theorem ha_eq (b : Bool) : (hS b == ("a" : Str)) = b := by cases b <;> decide
end
section
/-! ### comprehensions over typed lists -/
theorem compLoop_t {α : Type} {vs : List Nat} {gd : D → Rho → Option Rho} {ft : Rho → R Bool} {fe : Rho → R VD} {ρ : Rho} {e : α → D} (p : α → Bool) (g : α → D) : ∀ (l : List α) (acc : List D), acc.length + l.length ≤ 1000000 →
    (∀ x ∈ l, ∃ ρ1, gd (e x) ρ = some ρ1 ∧ ft ρ1 = .ok (p x) ρ1 ∧ (p x = true → fe ρ1 = .ok (.d (g x)) ρ1) ∧ wipeR ρ1 vs = ρ) → Lq.compLoop vs gd ft fe acc (l.map e) ρ = .ok (acc ++ (l.filter p).map g) ρ
  | [], acc, _, _ => by simp [Lq.compLoop]
  | x :: l, acc, hl, h => by
    rw [List.length_cons] at hl
    obtain ⟨ρ1, e1, e2, e3, e4⟩ := h x List.mem_cons_self
    have hr := fun acc' ha => compLoop_t p g l acc' ha fun y hy => h y (List.mem_cons_of_mem _ hy)
    rw [List.map_cons, Lq.compLoop]
    cases hp : p x with
    | true =>
      have et : Lq.compTurn gd ft fe acc (e x) ρ = .ok (acc ++ [g x]) ρ1 := by simp only [Lq.compTurn, e1, e2, hp, R.bind, e3 hp, if_true, fits_of (show acc.length + 1 ≤ 1000000 by omega)]
      rw [et]; simp only [e4]
      rw [hr _ (by rw [List.length_append, List.length_singleton]; omega), List.filter_cons_of_pos hp]; simp
    | false =>
      have et : Lq.compTurn gd ft fe acc (e x) ρ = .ok acc ρ1 := by simp [Lq.compTurn, e1, e2, hp, R.bind]
      rw [et]; simp only [e4]
      rw [hr _ (by omega), List.filter_cons_of_neg (by simp [hp])]
theorem comp_t {α : Type} {vs : List Nat} {fi : Rho → R (List D)} {gd : D → Rho → Option Rho} {ft : Rho → R Bool} {fe : Rho → R VD} {ρ ρ0 : Rho} {l : List α} {e : α → D} {p : α → Bool} {g : α → D} (hi : fi ρ = .ok (l.map e) ρ0) (hp : (vs.all fun v => plainC (ρ0.getD v .no)) = true) (hl : l.length ≤ 1000000)
    (h : ∀ x ∈ l, ∃ ρ1, gd (e x) (wipeR ρ0 vs) = some ρ1 ∧ ft ρ1 = .ok (p x) ρ1 ∧ (p x = true → fe ρ1 = .ok (.d (g x)) ρ1) ∧ wipeR ρ1 vs = wipeR ρ0 vs) (hb : backR ρ0 (wipeR ρ0 vs) vs = ρ0 := by rfl) : Lq.compF vs fi gd ft fe ρ = .ok ((l.filter p).map g) ρ0 := by
  have e1 := compLoop_t (vs := vs) (gd := gd) (ft := ft) (fe := fe) p g l [] (by simpa using hl) h
  rw [List.nil_append] at e1
  simp only [Lq.compF, hi, R.bind, hp, e1, if_true, hb]
theorem comp_m {α : Type} {vs : List Nat} {fi : Rho → R (List D)} {gd : D → Rho → Option Rho} {fe : Rho → R VD} {ρ ρ0 : Rho} {l : List α} {e : α → D} {g : α → D} (hi : fi ρ = .ok (l.map e) ρ0) (hp : (vs.all fun v => plainC (ρ0.getD v .no)) = true) (hl : l.length ≤ 1000000)
    (h : ∀ x ∈ l, ∃ ρ1, gd (e x) (wipeR ρ0 vs) = some ρ1 ∧ fe ρ1 = .ok (.d (g x)) ρ1 ∧ wipeR ρ1 vs = wipeR ρ0 vs) (hb : backR ρ0 (wipeR ρ0 vs) vs = ρ0 := by rfl) : Lq.compF vs fi gd yesT fe ρ = .ok (l.map g) ρ0 := by
  have e1 := comp_t (vs := vs) (fi := fi) (gd := gd) (ft := yesT) (fe := fe) (p := fun _ => true) (g := g) hi hp hl (fun x hx => by
    obtain ⟨ρ1, h1, h2, h3⟩ := h x hx
    exact ⟨ρ1, h1, rfl, fun _ => h2, h3⟩) hb
  rw [e1, List.filter_eq_self.2 fun _ _ => rfl]
/-- loops over typed lists, with a state that is kept -/
theorem loop_t {α σ : Type} {body : D → Rho → O} {e : α → D} (A : σ → Rho → Prop) (step : σ → α → σ) : ∀ (l : List α) (s : σ) (ρ : Rho), A s ρ → (∀ l1 x l2, l = l1 ++ x :: l2 → ∀ ρ, A (l1.foldl step s) ρ → ∃ ρ1, body (e x) ρ = .nx ρ1 ∧ A (step (l1.foldl step s) x) ρ1) →
    ∃ ρ', loopS body (l.map e) ρ = .nx ρ' ∧ A (l.foldl step s) ρ'
  | [], s, ρ, h, _ => ⟨ρ, rfl, h⟩
  | x :: l, s, ρ, h, hs => by
    obtain ⟨ρ1, e1, h1⟩ := hs [] x l rfl ρ h
    obtain ⟨ρ2, e2, h2⟩ := loop_t A step l (step s x) ρ1 h1 (fun l1 y l2 hl ρ hA => by
      have := hs (x :: l1) y l2 (by rw [hl]; rfl) ρ (by simpa using hA)
      simpa using this)
    exact ⟨ρ2, by rw [List.map_cons, loopS, e1]; exact e2, by simpa using h2⟩
end
section
/-! ### joined runs: sums, turns one by one, ends -/
theorem flatR_app : ∀ (a b : List Rn), flatR (a ++ b) = flatR a ++ flatR b
  | [], b => rfl
  | r :: a, b => by rw [List.cons_append, flatR, flatR_app a b, flatR, List.append_assoc]
theorem addR_flat {acc : List Rn} {r : Rn} (ha : ∀ q ∈ acc, 0 < q.2) (hr : 0 < r.2) : flatR (addR acc r) = flatR acc ++ List.replicate r.2.toNat r.1 := by
  rcases snoc_cases acc with rfl | ⟨xs, l, rfl⟩
  · simp [addR, flatR]
  · rw [addR_snoc]
    have hl : 0 < l.2 := ha l (by simp)
    split
    · rename_i h
      rw [flatR_app, flatR_app]
      simp only [flatR, List.append_nil, List.append_assoc, h]
      rw [← List.replicate_append_replicate (n := l.2.toNat) (m := r.2.toNat) |>.symm, show l.2.toNat + r.2.toNat = (l.2 + r.2).toNat by omega]
    · rw [show xs ++ [l, r] = xs ++ [l] ++ [r] by simp, flatR_app, flatR_app]; simp [flatR]
theorem foldl_flat : ∀ (rs acc : List Rn), (∀ q ∈ acc, 0 < q.2) → (∀ q ∈ rs, 0 < q.2) → flatR (rs.foldl addR acc) = flatR acc ++ flatR rs
  | [], acc, _, _ => by simp [flatR]
  | r :: rs, acc, ha, hr => by
    have h0 := hr r List.mem_cons_self
    rw [List.foldl_cons, foldl_flat rs _ (addR_pos ha h0) fun q hq => hr q (List.mem_cons_of_mem _ hq), addR_flat ha h0, flatR, List.append_assoc]
theorem joinR_flat {rs : List Rn} (h : ∀ q ∈ rs, 0 < q.2) : flatR (joinR rs) = flatR rs := by
  unfold joinR; rw [foldl_flat rs [] (fun q hq => by cases hq) h]; rfl
end
section
/-! ### equal to itself -/
theorem deqs_all : ∀ {xs : List D}, (∀ x ∈ xs, deq x x = true) → deqs xs xs = true
  | [], _ => by simp [deqs]
  | x :: xs, h => by rw [deqs, h x List.mem_cons_self, deqs_all fun y hy => h y (List.mem_cons_of_mem _ hy)]; rfl
theorem deq_fine : ∀ (n : Nat) (d : D), fine n d = true → deq d d = true
  | 0, d, h => by cases h
  | n + 1, d, h => by
    cases d with
    | non => rfl
    | bl b => simp [deq]
    | int i => simp [deq]
    | str s => simp [deq]
    | lst xs =>
      rw [fine, List.all_eq_true] at h
      rw [deq]
      exact deqs_all fun x hx => deq_fine n x (h x hx)
    | tup xs =>
      rw [fine, List.all_eq_true] at h
      rw [deq]
      exact deqs_all fun x hx => deq_fine n x (h x hx)
    | obj _ _ => cases h
    | scr _ => cases h
theorem fine_hD (n : Nat) (b : Bool) : fine (n + 1) (hD b) = true := by cases b <;> (show PyData.strOk _ = true) <;> decide +kernel
theorem fine_rD (n : Nat) (r : Rn) : fine (n + 2) (rD r) = true := by
  rw [rD, fine]; simp [fine_hD, fine]
theorem fine_rs (n : Nat) (rs : List Rn) : fine (n + 3) (.tup (rs.map rD)) = true := by
  rw [fine, List.all_eq_true]
  intro x hx
  obtain ⟨r, _, rfl⟩ := List.mem_map.1 hx
  exact fine_rD n r
theorem fine_rsL (n : Nat) (rs : List Rn) : fine (n + 3) (.lst (rs.map rD)) = true := by
  rw [fine, List.all_eq_true]
  intro x hx
  obtain ⟨r, _, rfl⟩ := List.mem_map.1 hx
  exact fine_rD n r
theorem ne_nilR (rs : List Rn) : neD (.lst (rs.map rD)) (.lst []) = some (.bl (!rs.isEmpty)) := by
  have h1 := fine_okQ (fine_rsL 0 rs) (by decide)
  have h2 : okQ (.lst []) = true := fine_okQ (fine_rsL 0 []) (by decide)
  cases rs with
  | nil => rfl
  | cons b v => rw [neD, h1, h2]; rfl
theorem good_ints (n : Nat) {w : List Int} (h : w.length ≤ 1000000) : good (n + 2) (.tup (w.map D.int)) = true := good_tup (by simpa using h) fun x hx => by
  obtain ⟨b, _, rfl⟩ := List.mem_map.1 hx; rfl
theorem good_rs (n : Nat) {rs : List Rn} (h : rs.length ≤ 1000000) : good (n + 3) (.tup (rs.map rD)) = true := good_tup (by simpa using h) fun x hx => by
  obtain ⟨b, _, rfl⟩ := List.mem_map.1 hx; rfl
/-! ### the law's own joining -/
theorem at_lastL (xs : List D) (y : D) : atD (.lst (xs ++ [y])) (.int (-1)) = some y := at_last xs y
theorem ix_last (n : Nat) : L2.ixN (n + 1) (-1) = some n := by
  unfold L2.ixN
  rw [if_neg (by omega), if_pos (by omega)]
  congr 1; omega
theorem joinL_turn {x : D} {acc : List Rn} {r : Rn} {c2 c3 : Cell} (h : acc.length < 100000) : turnS m_law_joined_g1 m_law_joined_b1 (rD r) [.d x, .m (acc.map rD), c2, c3] = .nx [.d x, .m ((addR acc r).map rD), .d (hD r.1), .d (.int r.2)] := by
  obtain ⟨b, n⟩ := r
  have hn := ne_nilR acc
  rcases snoc_cases acc with rfl | ⟨acc, l, rfl⟩
  · rw [show (!([] : List Rn).isEmpty) = false from rfl] at hn
    apply ev_turn rfl
    unfold m_law_joined_b1
    apply Eq.trans
    · array_mem_dec
    · rfl
  · obtain ⟨c, m⟩ := l
    have e1 : atD (.lst ((acc ++ [(c, m)]).map rD)) (.int (-1)) = some (.tup [hD c, .int m]) := by rw [List.map_append]; exact at_lastL _ _
    have e2 : L2.ixN ((acc ++ [(c, m)]).map rD).length (-1) = some acc.length := by rw [List.length_map, List.length_append]; exact ix_last _
    rw [show (!(acc ++ [(c, m)]).isEmpty) = true by simp] at hn
    rw [addR_snoc]
    apply ev_turn rfl
    unfold m_law_joined_b1
    by_cases hb : c = b
    · subst hb
      have hq : hS c = hS c := rfl
      rw [if_pos rfl]
      apply Eq.trans
      · array_mem_dec
      · simp [rD]
    · have hq : ¬ hS c = hS b := fun z => hb (by have := hS_eq c b; rw [z] at this; simpa using this.symm)
      rw [if_neg hb]
      rw [List.length_append] at h
      apply Eq.trans
      · array_mem_dec
      · simp [rD]
theorem joinL_ok {x : D} {rs : List Rn} (hx : x.items? = some (rs.map rD)) (h : rs.length ≤ 90000) : f_law_joined [x] = .ok (.tup ((joinR rs).map rD)) := by
  obtain ⟨ρ', el, c2, c3, rfl⟩ := loop_t (body := turnS m_law_joined_g1 m_law_joined_b1) (e := rD) (fun acc ρ => ∃ c2 c3, ρ = [.d x, .m (acc.map rD), c2, c3]) addR rs [] [.d x, .m [], .no, .no] ⟨_, _, rfl⟩ (fun l1 r l2 hl ρ hA => by
    obtain ⟨c2, c3, rfl⟩ := hA
    have := foldl_len l1 []
    have hll : l1.length ≤ rs.length := by rw [hl]; simp
    exact ⟨_, joinL_turn (by simp at this; omega), _, _, rfl⟩)
  have eli : m_law_joined_l1 [.d x, .m [], .no, .no] = .nx [.d x, .m ((joinR rs).map rD), c2, c3] := by
    unfold m_law_joined_l1
    exact ev_for (items_seq hx rfl) el
  have et : tupleTD [.lst ((joinR rs).map rD)] = some (.tup ((joinR rs).map rD)) := rfl
  refine ev_runF [.d x, .no, .no, .no] ?_
  apply Exists.intro
  unfold m_law_joined
  array_mem_dec
end
section
/-! ### ==, len, check_size, corners -/
theorem slot1 (rs : List Rn) : slotD 20 1 (TD rs) = some (.tup (rs.map rD)) := rfl
theorem tlen_ok {rs : List Rn} : f_T_len [TD rs] = .ok (.int rs.length) := by
  have h1 := slot1 rs
  have h2 : lenD [.tup (rs.map rD)] = some (.int rs.length) := by rw [lenD, List.length_map]
  show runF 1 1 m_T_len [TD rs] = _
  refine ev_runF [.d (TD rs)] ?_
  apply Exists.intro
  unfold m_T_len
  array_mem_dec
theorem lenT_ok {rs : List Rn} (h : rs.length ≤ 90000) : lenTD 20 f_T_len [TD rs] = some (.int rs.length) := by
  have e := tlen_ok (rs := rs)
  have q : (decide (0 ≤ (rs.length : Int)) && decide ((rs.length : Int) < 1000000000)) = true := by rw [decide_eq_true (by omega), decide_eq_true (by omega)]; rfl
  unfold TD at e ⊢
  simp only [lenTD, e, if_true, q]
end
section
/-! ### numbers of turns: ahead, place_of -/
theorem ehA (b : Bool) : eqD (hD b) (.str "a") = some (.bl b) := by show some (D.bl (hS b == ("a" : Str))) = _; rw [ha_eq]
theorem ehB (b : Bool) : eqD (hD b) (.str "b") = some (.bl (!b)) := by show some (D.bl (hS b == ("b" : Str))) = _; rw [hb_eq]
/-! what joining leaves as it is -/
end
section
theorem of_ab {x : D} (h : x ∈ [D.str "a", D.str "b"]) : ∃ b, x = hD b := by
  simp at h
  rcases h with rfl | rfl
  · exact ⟨true, rfl⟩
  · exact ⟨false, rfl⟩
theorem pow_ten (n : Nat) (h : n ≤ 100) : powD (.int 10) (.int n) = some (.int (10 ^ n)) := by
  simp [powD, show (n : Int) ≤ 1000000 by omega]
theorem much_ok {k : Nat} {ns : List Int} {h : Int} (hb : Bx k ns) (h0 : 0 < h) (hk : k < 100000000) : ∃ m ns', f_law_much ns [.int h] = some (.int m, ns') ∧ 0 < m ∧ Bx (k + 2) ns' := by
  by_cases hs : h < 1000000
  · obtain ⟨r, ns1, e1, g1, g2, hb1⟩ := take_ok hb (n := h) h0 (by omega) (by omega)
    exact ⟨1 + r, ns1, by simp [f_law_much, m_law_much, Lq.runF, Lq.runB, Lq.runL, Lq.boxAt, Lq.startR, Lq.seqS, Lq.nextS, Lq.ifS, Lq.asgS, Lq.asgM, Lq.asgG, Lq.retS, Lq.retF, Lq.dropS, Lq.forS, Lq.loopS, Lq.turnS, Lq.putItem, Lq.isMB, Lq.putS1, Lq.parS, Lq.consMd, Lq.consMf', Lq.noErr, Lq.nilM, Lq.setsR, Lq.nameE, Lq.constE, Lq.op1E, Lq.op2E, Lq.opNE, Lq.opNF, Lq.op2F, Lq.lift1, Lq.lift2, Lq.liftN, Lq.res, Lq.resAll, Lq.valT, Lq.notT, Lq.andT, Lq.orT, Lq.andE, Lq.orE, Lq.notE, Lq.ifE, Lq.consA, Lq.nilA, Lq.frzE, Lq.lstF, Lq.tupE, Lq.callE, Lq.callBE, Lq.callL, Lq.callNew, Lq.slotted, Lq.datAll, Lq.appE, Lq.popE, Lq.compF, Lq.compLoop, Lq.compTurn, Lq.yesT, Lq.wipeR, Lq.backR, Lq.plainC, Lq.nameG, Lq.tupG, Lq.consG, Lq.nilG, Lq.seqI, Lq.rngI1, Lq.rngI2, Lq.enumI, Lq.zipI, Lq.isiE, Lq.slE, Lq.aPart, Lq.noPart, Lq.chainE, Lq.strM, Lq.orF, Lq.R.bind, Lq.R.thnO, Lq.raiseS, Lq.raise0S, Lq.tryS, Lq.hNil, Lq.hAs, Lq.goneS, Lq.enumA, Lq.enumK, Lq.ifF, Lq.permA, Lq.permL, Lq.D.noL, Lq.noLs, Lq.isEx, Lq.fldD, Lq.isErrD, Lq.itemsOf, Lq.onlyB, Lq.isB, Lq.D.flat, Lq.starA, Lq.extE, Lq.augS, Lq.ixTE, Lq.mvS, Lq.dfA, Lq.slotD, Lq.propD, Lq.mkE, Lq.mkE0, Lq.callNewN, Lq.isErrND, Lq.callME, Lq.isBD, Lq.addD, Lq.catF, Lq.subD, Lq.mulD, Lq.fdivD, Lq.modD, Lq.powD, Lq.negD, Lq.ltD, Lq.leD, Lq.gtD, Lq.geD, Lq.eqD, Lq.neD, Lq.sameKind, Lq.isD, Lq.isntD, Lq.isNon, Lq.inD, Lq.ninD, Lq.anyEq, Lq.lenD, Lq.atD, Lq.cutD, Lq.revD, Lq.splitD, Lq.joinD, Lq.tupleD, Lq.tupleTD, Lq.listF, Lq.allD, Lq.anyD, Lq.sumD, Lq.absD, Lq.min2D, Lq.max2D, Lq.intD, Lq.strD, Lq.sortedF, Lq.isiB, Lq.tyName, Lq.notObj, Lq.D.items?, Lq.fits, L2.atI, L2.ixN, hs, e1], by omega, hb1.mono (by omega)⟩
  · obtain ⟨r, ns1, e1, g1, g2, hb1⟩ := take_ok hb (n := 9) (by omega) (by omega) (by omega)
    obtain ⟨r2, ns2, e2, g3, g4, hb2⟩ := take_ok hb1 (n := 1000000) (by omega) (by omega) (by omega)
    have hbg : big (1 + r) = true := big_of (by omega) (by omega)
    have hlg : Nat.log2 10 < 9000 := by decide +kernel
    refine ⟨(1 + r) * (h / 10) + r2, ns2, by simp [f_law_much, m_law_much, Lq.runF, Lq.runB, Lq.runL, Lq.boxAt, Lq.startR, Lq.seqS, Lq.nextS, Lq.ifS, Lq.asgS, Lq.asgM, Lq.asgG, Lq.retS, Lq.retF, Lq.dropS, Lq.forS, Lq.loopS, Lq.turnS, Lq.putItem, Lq.isMB, Lq.putS1, Lq.parS, Lq.consMd, Lq.consMf', Lq.noErr, Lq.nilM, Lq.setsR, Lq.nameE, Lq.constE, Lq.op1E, Lq.op2E, Lq.opNE, Lq.opNF, Lq.op2F, Lq.lift1, Lq.lift2, Lq.liftN, Lq.res, Lq.resAll, Lq.valT, Lq.notT, Lq.andT, Lq.orT, Lq.andE, Lq.orE, Lq.notE, Lq.ifE, Lq.consA, Lq.nilA, Lq.frzE, Lq.lstF, Lq.tupE, Lq.callE, Lq.callBE, Lq.callL, Lq.callNew, Lq.slotted, Lq.datAll, Lq.appE, Lq.popE, Lq.compF, Lq.compLoop, Lq.compTurn, Lq.yesT, Lq.wipeR, Lq.backR, Lq.plainC, Lq.nameG, Lq.tupG, Lq.consG, Lq.nilG, Lq.seqI, Lq.rngI1, Lq.rngI2, Lq.enumI, Lq.zipI, Lq.isiE, Lq.slE, Lq.aPart, Lq.noPart, Lq.chainE, Lq.strM, Lq.orF, Lq.R.bind, Lq.R.thnO, Lq.raiseS, Lq.raise0S, Lq.tryS, Lq.hNil, Lq.hAs, Lq.goneS, Lq.enumA, Lq.enumK, Lq.ifF, Lq.permA, Lq.permL, Lq.D.noL, Lq.noLs, Lq.isEx, Lq.fldD, Lq.isErrD, Lq.itemsOf, Lq.onlyB, Lq.isB, Lq.D.flat, Lq.starA, Lq.extE, Lq.augS, Lq.ixTE, Lq.mvS, Lq.dfA, Lq.slotD, Lq.propD, Lq.mkE, Lq.mkE0, Lq.callNewN, Lq.isErrND, Lq.callME, Lq.isBD, Lq.addD, Lq.catF, Lq.subD, Lq.mulD, Lq.fdivD, Lq.modD, Lq.powD, Lq.negD, Lq.ltD, Lq.leD, Lq.gtD, Lq.geD, Lq.eqD, Lq.neD, Lq.sameKind, Lq.isD, Lq.isntD, Lq.isNon, Lq.inD, Lq.ninD, Lq.anyEq, Lq.lenD, Lq.atD, Lq.cutD, Lq.revD, Lq.splitD, Lq.joinD, Lq.tupleD, Lq.tupleTD, Lq.listF, Lq.allD, Lq.anyD, Lq.sumD, Lq.absD, Lq.min2D, Lq.max2D, Lq.intD, Lq.strD, Lq.sortedF, Lq.isiB, Lq.tyName, Lq.notObj, Lq.D.items?, Lq.fits, L2.atI, L2.ixN, hs, e1, e2, hbg, hlg], ?_, hb2.mono (by omega)⟩
    have : 0 < (1 + r) * (h / 10) := Int.mul_pos (by omega) (by omega)
    omega
theorem bits_ok {k : Nat} {ns : List Int} {m : Nat} {h : Int} (hb : Bx k ns) (h0 : 0 < h) (hm : m ≤ 1000) (hk : k < 10000000) : ∃ (rs : List Rn) (ns' : List Int), f_law_bits ns [.int m, .int h] = some (.tup (rs.map rD), ns') ∧ rs.length ≤ m ∧ (∀ r ∈ rs, 0 < r.2) ∧ Bx (k + 1 + 3 * m) ns' := by
  obtain ⟨t, ns1, e1, g1, g2, hb1⟩ := take_ok hb (n := (m : Int) + 1) (by omega) (by omega) (by omega)
  obtain ⟨ρ', el, hi⟩ := loop_inv (body := turnS (nameG 4) m_law_bits_b1) (fun j ρ => j ≤ t.toNat → ∃ (ns : List Int) (rs : List Rn) (cc : Cell), ρ = [.b ns, .d (.int m), .d (.int h), .m (rs.map rD), cc] ∧ rs.length = j ∧ (∀ r ∈ rs, 0 < r.2) ∧ Bx (k + 1 + 3 * j) ns) (rng 0 t.toNat) 0
    [.b ns1, .d (.int m), .d (.int h), .m [], .no] (fun _ => ⟨ns1, [], .no, rfl, rfl, fun _ h => (List.not_mem_nil h).elim, hb1⟩) (fun j d ρ hj hi => by
      obtain ⟨hj1, rfl⟩ := rng_at hj
      obtain ⟨ns2, rs, cc, rfl, hl, hp, hb2⟩ := hi (by omega)
      obtain ⟨x, ns3, e3, hx, hb3⟩ := of_ok (xs := [.str "a", .str "b"]) hb2 (by simp) (by simp) (by omega)
      obtain ⟨b, rfl⟩ := of_ab hx
      obtain ⟨q, ns4, e4, hq, hb4⟩ := much_ok hb3 h0 (by omega)
      have hf : rs.length + 1 ≤ 1000000 := by omega
      refine ⟨[.b ns4, .d (.int m), .d (.int h), .m ((rs ++ [(b, q)]).map rD), .d (.int (0 + (j : Nat)))], ?_, fun _ => ⟨ns4, rs ++ [(b, q)], _, rfl, by rw [List.length_append, List.length_singleton]; omega, fun r hr => ?_, by rw [show k + 1 + 3 * (0 + j + 1) = k + 1 + 3 * (0 + j) + 1 + 2 by omega]; exact hb4⟩⟩
      · simp [turnS, m_law_bits_b1, Lq.runF, Lq.runB, Lq.runL, Lq.boxAt, Lq.startR, Lq.seqS, Lq.nextS, Lq.ifS, Lq.asgS, Lq.asgM, Lq.asgG, Lq.retS, Lq.retF, Lq.dropS, Lq.forS, Lq.putItem, Lq.isMB, Lq.putS1, Lq.parS, Lq.consMd, Lq.consMf', Lq.noErr, Lq.nilM, Lq.setsR, Lq.nameE, Lq.constE, Lq.op1E, Lq.op2E, Lq.opNE, Lq.opNF, Lq.op2F, Lq.lift1, Lq.lift2, Lq.liftN, Lq.res, Lq.resAll, Lq.valT, Lq.notT, Lq.andT, Lq.orT, Lq.andE, Lq.orE, Lq.notE, Lq.ifE, Lq.consA, Lq.nilA, Lq.frzE, Lq.lstF, Lq.tupE, Lq.callE, Lq.callBE, Lq.callL, Lq.callNew, Lq.slotted, Lq.datAll, Lq.appE, Lq.popE, Lq.yesT, Lq.wipeR, Lq.backR, Lq.plainC, Lq.nameG, Lq.tupG, Lq.consG, Lq.nilG, Lq.seqI, Lq.rngI1, Lq.rngI2, Lq.enumI, Lq.zipI, Lq.isiE, Lq.slE, Lq.aPart, Lq.noPart, Lq.chainE, Lq.strM, Lq.orF, Lq.R.bind, Lq.R.thnO, Lq.raiseS, Lq.raise0S, Lq.tryS, Lq.hNil, Lq.hAs, Lq.goneS, Lq.enumA, Lq.enumK, Lq.ifF, Lq.permA, Lq.permL, Lq.D.noL, Lq.noLs, Lq.isEx, Lq.fldD, Lq.isErrD, Lq.itemsOf, Lq.onlyB, Lq.isB, Lq.D.flat, Lq.starA, Lq.extE, Lq.augS, Lq.ixTE, Lq.mvS, Lq.dfA, Lq.slotD, Lq.propD, Lq.mkE, Lq.mkE0, Lq.callNewN, Lq.isErrND, Lq.callME, Lq.isBD, Lq.addD, Lq.catF, Lq.subD, Lq.negD, Lq.ltD, Lq.leD, Lq.gtD, Lq.geD, Lq.eqD, Lq.neD, Lq.sameKind, Lq.isD, Lq.isntD, Lq.isNon, Lq.lenD, Lq.isiB, Lq.tyName, Lq.notObj, Lq.D.items?, Lq.fits, L2.atI, L2.ixN, e3, e4, hf, rD]
      · rcases List.mem_append.1 hr with hr | hr
        · exact hp r hr
        · rw [List.mem_singleton.1 hr]; exact hq)
  rw [rng_len, Nat.zero_add] at hi
  obtain ⟨ns2, rs, cc, rfl, hl, hp, hb2⟩ := hi (Nat.le_refl _)
  refine ⟨rs, ns2, ?_, by omega, hp, hb2.mono (by omega)⟩
  have eo : okR t = true := okR_small (by omega) (by omega)
  have ell : m_law_bits_l1 [.b ns, .d (.int m), .d (.int h), .m [], .no] = .nx [.b ns2, .d (.int m), .d (.int h), .m (rs.map rD), cc] := by
    simp [m_law_bits_l1, Lq.runF, Lq.runB, Lq.runL, Lq.boxAt, Lq.startR, Lq.seqS, Lq.nextS, Lq.ifS, Lq.asgS, Lq.asgM, Lq.asgG, Lq.retS, Lq.retF, Lq.dropS, Lq.forS, Lq.putItem, Lq.isMB, Lq.putS1, Lq.parS, Lq.consMd, Lq.consMf', Lq.noErr, Lq.nilM, Lq.setsR, Lq.nameE, Lq.constE, Lq.op1E, Lq.op2E, Lq.opNE, Lq.opNF, Lq.op2F, Lq.lift1, Lq.lift2, Lq.liftN, Lq.res, Lq.resAll, Lq.valT, Lq.notT, Lq.andT, Lq.orT, Lq.andE, Lq.orE, Lq.notE, Lq.ifE, Lq.consA, Lq.nilA, Lq.frzE, Lq.lstF, Lq.tupE, Lq.callE, Lq.callBE, Lq.callL, Lq.callNew, Lq.slotted, Lq.datAll, Lq.appE, Lq.popE, Lq.yesT, Lq.wipeR, Lq.backR, Lq.plainC, Lq.nameG, Lq.tupG, Lq.consG, Lq.nilG, Lq.seqI, Lq.rngI1, Lq.rngI2, Lq.enumI, Lq.zipI, Lq.isiE, Lq.slE, Lq.aPart, Lq.noPart, Lq.chainE, Lq.strM, Lq.orF, Lq.R.bind, Lq.R.thnO, Lq.raiseS, Lq.raise0S, Lq.tryS, Lq.hNil, Lq.hAs, Lq.goneS, Lq.enumA, Lq.enumK, Lq.ifF, Lq.permA, Lq.permL, Lq.D.noL, Lq.noLs, Lq.isEx, Lq.fldD, Lq.isErrD, Lq.itemsOf, Lq.onlyB, Lq.isB, Lq.D.flat, Lq.starA, Lq.extE, Lq.augS, Lq.ixTE, Lq.mvS, Lq.dfA, Lq.slotD, Lq.propD, Lq.mkE, Lq.mkE0, Lq.callNewN, Lq.isErrND, Lq.callME, Lq.isBD, Lq.addD, Lq.catF, Lq.subD, Lq.mulD, Lq.fdivD, Lq.modD, Lq.powD, Lq.negD, Lq.ltD, Lq.leD, Lq.gtD, Lq.geD, Lq.eqD, Lq.neD, Lq.sameKind, Lq.isD, Lq.isntD, Lq.isNon, Lq.inD, Lq.ninD, Lq.anyEq, Lq.lenD, Lq.atD, Lq.cutD, Lq.revD, Lq.splitD, Lq.joinD, Lq.tupleD, Lq.tupleTD, Lq.listF, Lq.allD, Lq.anyD, Lq.sumD, Lq.absD, Lq.min2D, Lq.max2D, Lq.intD, Lq.strD, Lq.sortedF, Lq.isiB, Lq.tyName, Lq.notObj, Lq.D.items?, Lq.fits, L2.atI, L2.ixN, e1, eo, el]
  simp [f_law_bits, m_law_bits, Lq.runF, Lq.runB, Lq.runL, Lq.boxAt, Lq.startR, Lq.seqS, Lq.nextS, Lq.ifS, Lq.asgS, Lq.asgM, Lq.asgG, Lq.retS, Lq.retF, Lq.dropS, Lq.forS, Lq.putItem, Lq.isMB, Lq.putS1, Lq.parS, Lq.consMd, Lq.consMf', Lq.noErr, Lq.nilM, Lq.setsR, Lq.nameE, Lq.constE, Lq.op1E, Lq.op2E, Lq.opNE, Lq.opNF, Lq.op2F, Lq.lift1, Lq.lift2, Lq.liftN, Lq.res, Lq.resAll, Lq.valT, Lq.notT, Lq.andT, Lq.orT, Lq.andE, Lq.orE, Lq.notE, Lq.ifE, Lq.consA, Lq.nilA, Lq.frzE, Lq.lstF, Lq.tupE, Lq.callE, Lq.callBE, Lq.callL, Lq.callNew, Lq.slotted, Lq.datAll, Lq.appE, Lq.popE, Lq.yesT, Lq.wipeR, Lq.backR, Lq.plainC, Lq.nameG, Lq.tupG, Lq.consG, Lq.nilG, Lq.seqI, Lq.rngI1, Lq.rngI2, Lq.enumI, Lq.zipI, Lq.isiE, Lq.slE, Lq.aPart, Lq.noPart, Lq.chainE, Lq.strM, Lq.orF, Lq.R.bind, Lq.R.thnO, Lq.raiseS, Lq.raise0S, Lq.tryS, Lq.hNil, Lq.hAs, Lq.goneS, Lq.enumA, Lq.enumK, Lq.ifF, Lq.permA, Lq.permL, Lq.D.noL, Lq.noLs, Lq.isEx, Lq.fldD, Lq.isErrD, Lq.itemsOf, Lq.onlyB, Lq.isB, Lq.D.flat, Lq.starA, Lq.extE, Lq.augS, Lq.ixTE, Lq.mvS, Lq.dfA, Lq.slotD, Lq.propD, Lq.mkE, Lq.mkE0, Lq.callNewN, Lq.isErrND, Lq.callME, Lq.isBD, Lq.addD, Lq.catF, Lq.subD, Lq.negD, Lq.ltD, Lq.leD, Lq.gtD, Lq.geD, Lq.eqD, Lq.neD, Lq.sameKind, Lq.isD, Lq.isntD, Lq.isNon, Lq.lenD, Lq.isiB, Lq.tyName, Lq.notObj, Lq.D.items?, Lq.fits, L2.atI, L2.ixN, ell, tupleTD, tupleD]
end
section
/-! ### what rows of runs show, with lists in the place of tuples -/
theorem itemsE {x : D} {l : List D} (h : x.items? = some l) : itemsOf x = some l := by cases x <;> simp [D.items?] at h <;> (subst h; rfl)
def herR : List Rn → Int
  | [] => 0
  | r :: rs => (if r.1 then r.2 else 0) + herR rs
theorem herR_filter : ∀ rs : List Rn, ((rs.filter (·.1)).map (·.2)).sum = herR rs
  | [] => rfl
  | r :: rs => by
    rw [herR, ← herR_filter rs]
    by_cases h : r.1 = true
    · rw [List.filter_cons_of_pos h, List.map_cons, List.sum_cons, if_pos h]
    · rw [List.filter_cons_of_neg h, if_neg h, Int.zero_add]
theorem hersR_ok {rs : List Rn} (h : rs.length ≤ 90000) : f_T_hers [TD rs] = .ok (.int (herR rs)) := by
  have c1 : m_T_hers_c1 [.d (TD rs), .no, .no] = .ok (((rs.filter (·.1)).map (·.2)).map D.int) [.d (TD rs), .no, .no] := by
    rw [List.map_map]
    refine comp_t (vs := [1, 2]) (ρ0 := [.d (TD rs), .no, .no]) (l := rs) (e := rD) (p := (·.1)) (g := fun r => D.int r.2) (ev_seqI (x := .tup (rs.map rD)) rfl rfl) rfl (by omega) (fun r _ => ⟨[.d (TD rs), .d (hD r.1), .d (.int r.2)], rfl, ?_, fun _ => rfl, rfl⟩)
    have ea := ehA r.1
    unfold m_T_hers_t1
    array_get_dec
  have su := sum_ints ((rs.filter (·.1)).map (·.2))
  rw [herR_filter] at su
  generalize ((rs.filter (·.1)).map (·.2)).map D.int = M at *
  refine ev_runF [.d (TD rs), .no, .no] ?_
  apply Exists.intro
  unfold m_T_hers
  array_mem_dec
theorem p_hers {rs : List Rn} (h : rs.length ≤ 90000) : propD 20 f_T_hers (TD rs) = some (.int (herR rs)) := by
  have e := hersR_ok h
  have n := TD_noL rs
  unfold TD at e n ⊢
  simp [propD, e]
def hisR : List Rn → Int
  | [] => 0
  | r :: rs => (if r.1 then 0 else r.2) + hisR rs
theorem hisR_filter : ∀ rs : List Rn, ((rs.filter (!·.1)).map (·.2)).sum = hisR rs
  | [] => rfl
  | r :: rs => by
    rw [hisR, ← hisR_filter rs]
    by_cases h : r.1 = true
    · rw [List.filter_cons_of_neg (by simp [h]), if_pos h, Int.zero_add]
    · rw [List.filter_cons_of_pos (by simp [h]), List.map_cons, List.sum_cons, if_neg h]
theorem her_his : ∀ rs : List Rn, herR rs + hisR rs = sumR rs
  | [] => rfl
  | r :: rs => by
    have := her_his rs
    rw [herR, hisR, sumR]
    split <;> omega
theorem hisR_ok {rs : List Rn} (h : rs.length ≤ 90000) : f_T_his [TD rs] = .ok (.int (hisR rs)) := by
  have c1 : m_T_his_c1 [.d (TD rs), .no, .no] = .ok (((rs.filter (!·.1)).map (·.2)).map D.int) [.d (TD rs), .no, .no] := by
    rw [List.map_map]
    refine comp_t (vs := [1, 2]) (ρ0 := [.d (TD rs), .no, .no]) (l := rs) (e := rD) (p := (!·.1)) (g := fun r => D.int r.2) (ev_seqI (x := .tup (rs.map rD)) rfl rfl) rfl (by omega) (fun r _ => ⟨[.d (TD rs), .d (hD r.1), .d (.int r.2)], rfl, ?_, fun _ => rfl, rfl⟩)
    have ea := ehB r.1
    unfold m_T_his_t1
    array_get_dec
  have su := sum_ints ((rs.filter (!·.1)).map (·.2))
  rw [hisR_filter] at su
  generalize ((rs.filter (!·.1)).map (·.2)).map D.int = M at *
  refine ev_runF [.d (TD rs), .no, .no] ?_
  apply Exists.intro
  unfold m_T_his
  array_mem_dec
theorem p_his {rs : List Rn} (h : rs.length ≤ 90000) : propD 20 f_T_his (TD rs) = some (.int (hisR rs)) := by
  have e := hisR_ok h
  have n := TD_noL rs
  unfold TD at e n ⊢
  simp [propD, e]
def rL (r : Rn) : D := .lst [hD r.1, .int r.2]
theorem isi_seq {ρ : Rho} {x : D} {ds : List D} (h : ρ[0]? = some (.d x)) (hx : x.items? = some ds) : isiE ["list", "tuple"] (nameE 0) ρ = .ok (.d (.bl true)) ρ := by
  unfold isiE
  rw [ev_name h]
  cases x <;> simp [D.items?] at hx <;> rfl
theorem lst_seq {n : Nat} {α : Type} {x : D} {l : List α} {e g : α → D} (hx : x.items? = some (l.map e)) (hl : l.length ≤ 1000) (h : ∀ a ∈ l, f_law_lists n [e a] = .ok (g a)) : f_law_lists (n + 1) [x] = .ok (.lst (l.map g)) := by
  have c1 : m_law_lists_c1 (f_law_lists n) [.d x, .no] = .ok (l.map g) [.d x, .no] := by
    refine comp_m (vs := [1]) (gd := nameG 1) (ρ0 := [.d x, .no]) (l := l) (e := e) (g := g) (ev_seqI (x := x) rfl (itemsE hx)) rfl (by omega) (fun a ha => ⟨[.d x, .d (e a)], rfl, ?_, rfl⟩)
    have := h a ha
    unfold m_law_lists_e1
    exact ev_call (ev_consA (ev_name rfl) ev_nilA) rfl this rfl
  show runF 1 2 (m_law_lists (f_law_lists n)) [x] = _
  refine ev_runF [.d x, .no] ⟨[.d x, .no], ?_⟩
  unfold m_law_lists
  exact ev_ret (ev_ifE1 (b := true) (ev_val (isi_seq rfl hx)) rfl (ev_frz c1))
theorem lst_str (n : Nat) (s : Str) : f_law_lists (n + 1) [.str s] = .ok (.str s) := by
  show runF 1 2 (m_law_lists (f_law_lists n)) [.str s] = _
  refine ev_runF [.d (.str s), .no] ⟨[.d (.str s), .no], ?_⟩
  unfold m_law_lists
  exact ev_ret (ev_ifE2 (b := false) (ev_val (by rfl)) rfl (ev_name rfl))
theorem lst_int (n : Nat) (i : Int) : f_law_lists (n + 1) [.int i] = .ok (.int i) := by
  show runF 1 2 (m_law_lists (f_law_lists n)) [.int i] = _
  refine ev_runF [.d (.int i), .no] ⟨[.d (.int i), .no], ?_⟩
  unfold m_law_lists
  exact ev_ret (ev_ifE2 (b := false) (ev_val (by rfl)) rfl (ev_name rfl))
theorem lst_pair (n : Nat) (s : Str) (i : Int) : f_law_lists (n + 2) [.tup [.str s, .int i]] = .ok (.lst [.str s, .int i]) :=
  lst_seq (n := n + 1) (x := .tup [.str s, .int i]) (l := [true, false]) (e := fun c => if c then .str s else .int i) (g := fun c => if c then .str s else .int i) rfl (by simp) fun c _ => by
    cases c
    · exact lst_int n i
    · exact lst_str n s
theorem lists_rs {rs : List Rn} (hl : rs.length ≤ 1000) : f_law_lists 8 [.tup (rs.map rD)] = .ok (.lst (rs.map rL)) :=
  lst_seq (n := 7) (x := .tup (rs.map rD)) (l := rs) (e := rD) (g := rL) rfl hl fun r _ => lst_pair 5 (hS r.1) r.2
theorem AsR_L (rs : List Rn) : AsR rs (.lst (rs.map rL)) := ⟨_, rfl, by simp, fun i d r h1 h2 => by
  rw [List.getElem?_map, h2] at h1
  exact .inr (Option.some.inj h1).symm⟩
def showD (rs : List Rn) : D := .lst [.tup (rs.map rD), .int (sumR rs), .int (herR rs), .int (hisR rs), .tup ((endsR 0 rs).map D.int), .int rs.length]
theorem shown_ok {rs : List Rn} (h : rs.length ≤ 90000) : f_law_shown [TD rs] = .ok (showD rs) := by
  have h1 := p_runs rs
  have h2 := p_size h
  have h3 := p_hers h
  have h4 := p_his h
  have h5 := p_ends rs
  have h6 := lenT_ok h
  unfold showD
  generalize rs.map rD = A at *
  generalize (endsR 0 rs).map D.int = B at *
  generalize TD rs = t at *
  refine ev_runF [.d t] ?_
  apply Exists.intro
  unfold m_law_shown
  array_mem_dec
theorem due_ok {rs : List Rn} (h : rs.length ≤ 90000) : f_law_due [.tup (rs.map rD)] = .ok (showD (joinR rs)) := by
  have hj := joinL_ok (x := .tup (rs.map rD)) rfl h
  have hl : (joinR rs).length ≤ 90000 := Nat.le_trans (joinR_len rs) h
  generalize rs.map rD = X at *
  generalize joinR rs = js at *
  have c1 : m_law_due_c1 [.d (.tup X), .d (.tup (js.map rD)), .no, .no, .no, .no, .no] = .ok (((js.filter (·.1)).map (·.2)).map D.int) [.d (.tup X), .d (.tup (js.map rD)), .no, .no, .no, .no, .no] := by
    rw [List.map_map]
    refine comp_t (vs := [6]) (ρ0 := [.d (.tup X), .d (.tup (js.map rD)), .no, .no, .no, .no, .no]) (l := js) (e := rD) (p := (·.1)) (g := fun r => D.int r.2) (ev_seqI (x := .tup (js.map rD)) rfl rfl) rfl (by omega) (fun r _ => ⟨[.d (.tup X), .d (.tup (js.map rD)), .no, .no, .no, .no, .d (rD r)], rfl, ?_, fun _ => ?_, rfl⟩)
    · have ea := ehA r.1
      have e0 : atD (rD r) (.int 0) = some (hD r.1) := rfl
      generalize js.map rD = J
      unfold m_law_due_t1
      array_get_dec
    · have e0 : atD (rD r) (.int 1) = some (.int r.2) := rfl
      generalize js.map rD = J
      unfold m_law_due_e1
      array_get_dec
  have c2 : ∀ s : Int, m_law_due_c2 [.d (.tup X), .d (.tup (js.map rD)), .d (.int s), .no, .no, .no, .no] = .ok (((js.filter (!·.1)).map (·.2)).map D.int) [.d (.tup X), .d (.tup (js.map rD)), .d (.int s), .no, .no, .no, .no] := fun s => by
    rw [List.map_map]
    refine comp_t (vs := [6]) (ρ0 := [.d (.tup X), .d (.tup (js.map rD)), .d (.int s), .no, .no, .no, .no]) (l := js) (e := rD) (p := (!·.1)) (g := fun r => D.int r.2) (ev_seqI (x := .tup (js.map rD)) rfl rfl) rfl (by omega) (fun r _ => ⟨[.d (.tup X), .d (.tup (js.map rD)), .d (.int s), .no, .no, .no, .d (rD r)], rfl, ?_, fun _ => ?_, rfl⟩)
    · have ea := ehB r.1
      have e0 : atD (rD r) (.int 0) = some (hD r.1) := rfl
      generalize js.map rD = J
      unfold m_law_due_t2
      array_get_dec
    · have e0 : atD (rD r) (.int 1) = some (.int r.2) := rfl
      generalize js.map rD = J
      unfold m_law_due_e2
      array_get_dec
  have su1 := sum_ints ((js.filter (·.1)).map (·.2))
  rw [herR_filter] at su1
  have su2 := sum_ints ((js.filter (!·.1)).map (·.2))
  rw [hisR_filter] at su2
  have c4 : ∀ s t : Int, m_law_due_c4 [.d (.tup X), .d (.tup (js.map rD)), .d (.int s), .d (.int t), .no, .no, .no] = .ok ((endsR 0 js).map D.int) [.d (.tup X), .d (.tup (js.map rD)), .d (.int s), .d (.int t), .no, .no, .no] := fun s t => by
    have e := compF_m (vs := [5]) (fi := rngI1 (consA (opNE lenD (consA (nameE 1) nilA)) nilA)) (gd := nameG 5) (fe := m_law_due_e4) (ρ := [.d (.tup X), .d (.tup (js.map rD)), .d (.int s), .d (.int t), .no, .no, .no]) (ρ0 := [.d (.tup X), .d (.tup (js.map rD)), .d (.int s), .d (.int t), .no, .no, .no])
      (ds := rng 0 js.length) (fun d => match d with | .int i => .int (sumR (js.take (i.toNat + 1))) | x => x) (by simp [Lq.runF, Lq.runB, Lq.runL, Lq.boxAt, Lq.startR, Lq.seqS, Lq.nextS, Lq.ifS, Lq.asgS, Lq.asgM, Lq.asgG, Lq.retS, Lq.retF, Lq.dropS, Lq.forS, Lq.loopS, Lq.turnS, Lq.putItem, Lq.isMB, Lq.putS1, Lq.parS, Lq.consMd, Lq.consMf', Lq.noErr, Lq.nilM, Lq.setsR, Lq.nameE, Lq.constE, Lq.op1E, Lq.op2E, Lq.opNE, Lq.opNF, Lq.op2F, Lq.lift1, Lq.lift2, Lq.liftN, Lq.res, Lq.resAll, Lq.valT, Lq.notT, Lq.andT, Lq.orT, Lq.andE, Lq.orE, Lq.notE, Lq.ifE, Lq.consA, Lq.nilA, Lq.frzE, Lq.lstF, Lq.tupE, Lq.callE, Lq.callBE, Lq.callL, Lq.callNew, Lq.slotted, Lq.datAll, Lq.appE, Lq.popE, Lq.compF, Lq.compLoop, Lq.compTurn, Lq.yesT, Lq.wipeR, Lq.backR, Lq.plainC, Lq.nameG, Lq.tupG, Lq.consG, Lq.nilG, Lq.seqI, Lq.rngI1, Lq.rngI2, Lq.enumI, Lq.zipI, Lq.isiE, Lq.slE, Lq.aPart, Lq.noPart, Lq.chainE, Lq.strM, Lq.orF, Lq.R.bind, Lq.R.thnO, Lq.raiseS, Lq.raise0S, Lq.tryS, Lq.hNil, Lq.hAs, Lq.goneS, Lq.enumA, Lq.enumK, Lq.ifF, Lq.permA, Lq.permL, Lq.D.noL, Lq.noLs, Lq.isEx, Lq.fldD, Lq.isErrD, Lq.itemsOf, Lq.onlyB, Lq.isB, Lq.D.flat, Lq.starA, Lq.extE, Lq.augS, Lq.ixTE, Lq.mvS, Lq.dfA, Lq.slotD, Lq.propD, Lq.mkE, Lq.mkE0, Lq.callNewN, Lq.isErrND, Lq.callME, lenD, okR_nat (n := js.length) (by omega)]) rfl (by rw [rng_len]; omega) (fun d hd => by
        obtain ⟨k, hk, rfl⟩ := rng_mem hd
        refine ⟨[.d (.tup X), .d (.tup (js.map rD)), .d (.int s), .d (.int t), .no, .d (.int k), .no], rfl, ?_, rfl⟩
        have ec : cutD (.tup (js.map rD)) none (some ((k : Int) + 1)) = some (.tup ((js.take (k + 1)).map rD)) := by
          show some (D.tup (cutL (js.map rD) none (some (((k + 1 : Nat)) : Int)))) = _
          rw [cutL_to, List.map_take]
        have e := compF_m (vs := [6]) (fi := seqI (slE (nameE 1) noPart (aPart (op2E addD (nameE 5) (constE (.int 1)))))) (gd := nameG 6) (fe := m_law_due_e3) (ρ := [.d (.tup X), .d (.tup (js.map rD)), .d (.int s), .d (.int t), .no, .d (.int k), .no]) (ρ0 := [.d (.tup X), .d (.tup (js.map rD)), .d (.int s), .d (.int t), .no, .d (.int k), .no])
          (ds := (js.take (k + 1)).map rD) nD (by simp [Lq.runF, Lq.runB, Lq.runL, Lq.boxAt, Lq.startR, Lq.seqS, Lq.nextS, Lq.ifS, Lq.asgS, Lq.asgM, Lq.asgG, Lq.retS, Lq.retF, Lq.dropS, Lq.forS, Lq.loopS, Lq.turnS, Lq.putItem, Lq.isMB, Lq.putS1, Lq.parS, Lq.consMd, Lq.consMf', Lq.noErr, Lq.nilM, Lq.setsR, Lq.nameE, Lq.constE, Lq.op1E, Lq.op2E, Lq.opNE, Lq.opNF, Lq.op2F, Lq.lift1, Lq.lift2, Lq.liftN, Lq.res, Lq.resAll, Lq.valT, Lq.notT, Lq.andT, Lq.orT, Lq.andE, Lq.orE, Lq.notE, Lq.ifE, Lq.consA, Lq.nilA, Lq.frzE, Lq.lstF, Lq.tupE, Lq.callE, Lq.callBE, Lq.callL, Lq.callNew, Lq.slotted, Lq.datAll, Lq.appE, Lq.popE, Lq.compF, Lq.compLoop, Lq.compTurn, Lq.yesT, Lq.wipeR, Lq.backR, Lq.plainC, Lq.nameG, Lq.tupG, Lq.consG, Lq.nilG, Lq.seqI, Lq.rngI1, Lq.rngI2, Lq.enumI, Lq.zipI, Lq.isiE, Lq.slE, Lq.aPart, Lq.noPart, Lq.chainE, Lq.strM, Lq.orF, Lq.R.bind, Lq.R.thnO, Lq.raiseS, Lq.raise0S, Lq.tryS, Lq.hNil, Lq.hAs, Lq.goneS, Lq.enumA, Lq.enumK, Lq.ifF, Lq.permA, Lq.permL, Lq.D.noL, Lq.noLs, Lq.isEx, Lq.fldD, Lq.isErrD, Lq.itemsOf, Lq.onlyB, Lq.isB, Lq.D.flat, Lq.starA, Lq.extE, Lq.augS, Lq.ixTE, Lq.mvS, Lq.dfA, Lq.slotD, Lq.propD, Lq.mkE, Lq.mkE0, Lq.callNewN, Lq.isErrND, Lq.callME, addD, ec]) rfl (by rw [List.length_map, List.length_take]; omega) (fun d hd => by
            obtain ⟨r, _, rfl⟩ := List.mem_map.1 hd
            exact ⟨[.d (.tup X), .d (.tup (js.map rD)), .d (.int s), .d (.int t), .no, .d (.int k), .d (rD r)], rfl, rfl, rfl⟩)
        rw [nD_map] at e
        have e' : m_law_due_c3 [.d (.tup X), .d (.tup (js.map rD)), .d (.int s), .d (.int t), .no, .d (.int k), .no] = .ok (((js.take (k + 1)).map (·.2)).map D.int) [.d (.tup X), .d (.tup (js.map rD)), .d (.int s), .d (.int t), .no, .d (.int k), .no] := e
        have es := sum_ints ((js.take (k + 1)).map (·.2))
        rw [sumR_int] at es
        generalize ((js.take (k + 1)).map (·.2)).map D.int = L at e' es
        simp [m_law_due_e4, Lq.runF, Lq.runB, Lq.runL, Lq.boxAt, Lq.startR, Lq.seqS, Lq.nextS, Lq.ifS, Lq.asgS, Lq.asgM, Lq.asgG, Lq.retS, Lq.retF, Lq.dropS, Lq.forS, Lq.putItem, Lq.isMB, Lq.putS1, Lq.parS, Lq.consMd, Lq.consMf', Lq.noErr, Lq.nilM, Lq.setsR, Lq.nameE, Lq.constE, Lq.op1E, Lq.op2E, Lq.opNE, Lq.opNF, Lq.op2F, Lq.lift1, Lq.lift2, Lq.liftN, Lq.res, Lq.resAll, Lq.valT, Lq.notT, Lq.andT, Lq.orT, Lq.andE, Lq.orE, Lq.notE, Lq.ifE, Lq.consA, Lq.nilA, Lq.frzE, Lq.lstF, Lq.tupE, Lq.callE, Lq.callBE, Lq.callL, Lq.callNew, Lq.slotted, Lq.datAll, Lq.appE, Lq.popE, Lq.yesT, Lq.wipeR, Lq.backR, Lq.plainC, Lq.nameG, Lq.tupG, Lq.consG, Lq.nilG, Lq.seqI, Lq.rngI1, Lq.rngI2, Lq.enumI, Lq.zipI, Lq.isiE, Lq.slE, Lq.aPart, Lq.noPart, Lq.chainE, Lq.strM, Lq.orF, Lq.R.bind, Lq.R.thnO, Lq.raiseS, Lq.raise0S, Lq.tryS, Lq.hNil, Lq.hAs, Lq.goneS, Lq.enumA, Lq.enumK, Lq.ifF, Lq.permA, Lq.permL, Lq.D.noL, Lq.noLs, Lq.isEx, Lq.fldD, Lq.isErrD, Lq.itemsOf, Lq.onlyB, Lq.isB, Lq.D.flat, Lq.starA, Lq.extE, Lq.augS, Lq.ixTE, Lq.mvS, Lq.dfA, Lq.slotD, Lq.propD, Lq.mkE, Lq.mkE0, Lq.callNewN, Lq.isErrND, Lq.callME, Lq.isBD, Lq.addD, Lq.catF, Lq.subD, Lq.negD, Lq.ltD, Lq.leD, Lq.gtD, Lq.geD, Lq.eqD, Lq.neD, Lq.sameKind, Lq.isD, Lq.isntD, Lq.isNon, Lq.lenD, Lq.isiB, Lq.tyName, Lq.notObj, Lq.D.items?, Lq.fits, L2.atI, L2.ixN, e', es])
    have er : ((rng 0 js.length).map fun d => match d with | .int i => D.int (sumR (js.take (i.toNat + 1))) | x => x) = (endsR 0 js).map D.int := by
      unfold rng
      rw [endsR_at, List.map_map, List.map_map]
      refine List.map_congr_left fun i _ => ?_
      simp
    rw [er] at e
    exact e
  have c1' := c1
  have c2' := c2 (herR js)
  have c4' := c4 (herR js) (hisR js)
  have hs := her_his js
  have ha : addD (.int (herR js)) (.int (hisR js)) = some (.int (sumR js)) := by rw [← hs]; rfl
  have hn : lenD [.tup (js.map rD)] = some (.int js.length) := by rw [lenD, List.length_map]
  unfold showD
  clear c1 c2 c4
  generalize (js.filter (·.1)).map (·.2) = M1 at *
  generalize M1.map D.int = N1 at *
  generalize (js.filter (!·.1)).map (·.2) = M2 at *
  generalize M2.map D.int = N2 at *
  generalize (endsR 0 js).map D.int = E at *
  generalize js.map rD = J at *
  refine ev_runF [.d (.tup X), .no, .no, .no, .no, .no, .no] ?_
  apply Exists.intro
  unfold m_law_due
  array_mem_dec
end
section
/-! ### runs that alternate are told by their turns one by one -/
def Alt : List Rn → Prop
  | [] => True
  | [r] => 0 < r.2
  | r :: s :: l => 0 < r.2 ∧ r.1 ≠ s.1 ∧ Alt (s :: l)
theorem Alt.tail : ∀ {r : Rn} {l : List Rn}, Alt (r :: l) → Alt l
  | _, [], _ => trivial
  | _, _ :: _, h => h.2.2
theorem Alt.head : ∀ {r : Rn} {l : List Rn}, Alt (r :: l) → 0 < r.2
  | _, [], h => h
  | _, _ :: _, h => h.1
theorem Alt.pos : ∀ {rs : List Rn}, Alt rs → ∀ q ∈ rs, 0 < q.2
  | [], _, _, hq => by cases hq
  | r :: l, h, q, hq => by
    rcases List.mem_cons.1 hq with rfl | hq
    · exact h.head
    · exact h.tail.pos q hq
theorem rep_ne {r : Rn} (h : 0 < r.2) (w : List Bool) : ∃ k, r.2.toNat = k + 1 ∧ List.replicate r.2.toNat r.1 ++ w = r.1 :: (List.replicate k r.1 ++ w) := ⟨r.2.toNat - 1, by omega, by
  obtain ⟨k, hk⟩ : ∃ k, r.2.toNat = k + 1 := ⟨r.2.toNat - 1, by omega⟩
  rw [hk, List.replicate_succ]; rfl⟩
theorem alt_next : ∀ {r : Rn} {l : List Rn}, Alt (r :: l) → (flatR l).head? ≠ some r.1
  | _, [], _ => by simp [flatR]
  | r, s :: l, h => by
    obtain ⟨k, _, e⟩ := rep_ne h.2.2.head (flatR l)
    rw [flatR, e, List.head?_cons]
    exact fun z => h.2.1 (Option.some.inj z).symm
theorem takeW (x : Bool) (w : List Bool) (h : w.head? ≠ some x) : ∀ m : Nat, (List.replicate m x ++ w).takeWhile (· == x) = List.replicate m x
  | 0 => by
    cases w with
    | nil => rfl
    | cons y w =>
      have : y ≠ x := fun z => h (by rw [z]; rfl)
      simp [List.takeWhile, this]
  | m + 1 => by
    rw [List.replicate_succ, List.cons_append, List.takeWhile_cons, if_pos (by simp), takeW x w h m]
theorem alt_unique : ∀ {a b : List Rn}, Alt a → Alt b → flatR a = flatR b → a = b
  | [], [], _, _, _ => rfl
  | [], s :: b, _, hb, h => by
    obtain ⟨k, _, e⟩ := rep_ne hb.head (flatR b)
    rw [flatR, flatR, e] at h; cases h
  | r :: a, [], ha, _, h => by
    obtain ⟨k, _, e⟩ := rep_ne ha.head (flatR a)
    rw [flatR, flatR, e] at h; cases h
  | (x, m) :: a, (y, n) :: b, ha, hb, h => by
    have h1 : 0 < m := ha.head
    have h2 : 0 < n := hb.head
    have n1 := alt_next ha
    have n2 := alt_next hb
    rw [flatR, flatR] at h
    dsimp only at h n1 n2
    have hxy : x = y := by
      obtain ⟨k, _, e⟩ := rep_ne (r := (x, m)) h1 (flatR a)
      obtain ⟨k', _, e'⟩ := rep_ne (r := (y, n)) h2 (flatR b)
      dsimp only at e e'
      rw [e, e'] at h
      exact (List.cons.inj h).1
    subst hxy
    have t1 := takeW x (flatR a) n1 m.toNat
    have t2 := takeW x (flatR b) n2 n.toNat
    rw [h, t2] at t1
    have hm : n.toNat = m.toNat := by have := congrArg List.length t1; simpa using this
    have hmn : m = n := by omega
    subst hmn
    have hr := List.append_cancel_left h
    rw [alt_unique ha.tail hb.tail hr]
theorem alt_snoc {l r : Rn} (hn : l.1 ≠ r.1) (hr : 0 < r.2) : ∀ {xs : List Rn}, Alt (xs ++ [l]) → Alt (xs ++ [l, r])
  | [], h => ⟨h, hn, hr⟩
  | [a], h => ⟨h.1, h.2.1, alt_snoc hn hr (xs := []) h.2.2⟩
  | a :: b :: xs, h => ⟨h.1, h.2.1, alt_snoc hn hr (xs := b :: xs) h.2.2⟩
theorem alt_last {l : Rn} {n : Int} (hn : 0 < n) : ∀ {xs : List Rn}, Alt (xs ++ [l]) → Alt (xs ++ [(l.1, n)])
  | [], _ => hn
  | [a], h => ⟨h.1, h.2.1, hn⟩
  | a :: b :: xs, h => ⟨h.1, h.2.1, alt_last hn (xs := b :: xs) h.2.2⟩
theorem addR_alt {acc : List Rn} {r : Rn} (ha : Alt acc) (hr : 0 < r.2) : Alt (addR acc r) := by
  rcases snoc_cases acc with rfl | ⟨xs, l, rfl⟩
  · exact hr
  · rw [addR_snoc]
    split
    · rename_i e
      have hl : 0 < l.2 := ha.pos l (by simp)
      have := alt_last (n := l.2 + r.2) (by omega) ha
      rw [e] at this
      exact this
    · rename_i e
      exact alt_snoc e hr ha
theorem fold_alt : ∀ {rs acc : List Rn}, Alt acc → (∀ q ∈ rs, 0 < q.2) → Alt (rs.foldl addR acc)
  | [], acc, h, _ => h
  | r :: rs, acc, h, hp => by
    rw [List.foldl_cons]
    exact fold_alt (rs := rs) (addR_alt h (hp r List.mem_cons_self)) fun q hq => hp q (List.mem_cons_of_mem _ hq)
theorem join_alt {rs : List Rn} (h : ∀ q ∈ rs, 0 < q.2) : Alt (joinR rs) := fold_alt trivial h
theorem join_id {rs : List Rn} (h : Alt rs) : joinR rs = rs := alt_unique (join_alt h.pos) h (joinR_flat h.pos)
theorem join_ext {a b : List Rn} (ha : ∀ q ∈ a, 0 < q.2) (hb : ∀ q ∈ b, 0 < q.2) (h : flatR a = flatR b) : joinR a = joinR b :=
  alt_unique (join_alt ha) (join_alt hb) (by rw [joinR_flat ha, joinR_flat hb, h])
theorem alt_rev : ∀ {rs : List Rn}, Alt rs → Alt rs.reverse
  | [], _ => trivial
  | [r], h => h
  | r :: s :: l, h => by
    have := alt_rev h.2.2
    rw [List.reverse_cons] at this ⊢
    rw [List.reverse_cons, List.append_assoc]
    exact alt_snoc (Ne.symm h.2.1) h.1 this
/-! ### parts -/
end
section
/-! ### Turns beside Turns, added, backwards, swapped; their runs are runs -/
theorem pos_swp {rs : List Rn} (h : ∀ q ∈ rs, 0 < q.2) : ∀ q ∈ rs.map swp, 0 < q.2 := fun q hq => by
  obtain ⟨r, hr, rfl⟩ := List.mem_map.1 hq
  exact h r hr
theorem flat_swp : ∀ rs : List Rn, flatR (rs.map swp) = (flatR rs).map not
  | [] => rfl
  | r :: rs => by
    rw [List.map_cons, flatR, flatR, flat_swp rs, List.map_append, List.map_replicate]; rfl
theorem swp_swp (rs : List Rn) : (rs.map swp).map swp = rs := by
  rw [List.map_map]
  conv => rhs; rw [← List.map_id rs]
  exact List.map_congr_left fun r _ => by obtain ⟨b, n⟩ := r; cases b <;> rfl
theorem join_swp {rs : List Rn} (h : ∀ q ∈ rs, 0 < q.2) : joinR ((joinR rs).map swp) = joinR (rs.map swp) :=
  join_ext (pos_swp (joinR_pos h)) (pos_swp h) (by rw [flat_swp, flat_swp, joinR_flat h])
theorem join_swp2 {rs : List Rn} (h : ∀ q ∈ rs, 0 < q.2) : joinR ((joinR (rs.map swp)).map swp) = joinR rs := by
  rw [join_swp (pos_swp h), swp_swp]
theorem pos_app {a b : List Rn} (ha : ∀ q ∈ a, 0 < q.2) (hb : ∀ q ∈ b, 0 < q.2) : ∀ q ∈ a ++ b, 0 < q.2 := fun q hq => by
  rcases List.mem_append.1 hq with h | h
  · exact ha q h
  · exact hb q h
theorem join_app {a b : List Rn} (ha : ∀ q ∈ a, 0 < q.2) (hb : ∀ q ∈ b, 0 < q.2) : joinR (joinR a ++ joinR b) = joinR (a ++ b) :=
  join_ext (pos_app (joinR_pos ha) (joinR_pos hb)) (pos_app ha hb) (by rw [flatR_app, flatR_app, joinR_flat ha, joinR_flat hb])
/-! #### added -/
theorem tadd_ok {a b : List Rn} (ha : ∀ q ∈ a, 0 < q.2) (hb : ∀ q ∈ b, 0 < q.2) (hl : a.length + b.length ≤ 80000) : addTD 20 f_T_add (TD a) (TD b) = some (TD (joinR (a ++ b))) := by
  have s1 := slot1 a
  have p1 := p_runs b
  have ad : addD (.tup (a.map rD)) (.tup (b.map rD)) = some (.tup ((a ++ b).map rD)) := by rw [List.map_append]; exact dv_addT (by simp; omega)
  have i1 : f_T_init [.tup ((a ++ b).map rD)] = .ok (TD (joinR (a ++ b))) := init_ok (AsR.of rfl) (by simp; omega) (pos_app ha hb)
  have e : f_T_add [TD a, TD b] = .ok (TD (joinR (a ++ b))) := by
    refine ev_runF [.d (TD a), .d (TD b)] ?_
    apply Exists.intro
    unfold m_T_add
    array_mem_dec
  show (if (20 : Nat) = 20 ∧ (20 : Nat) = 20 then _ else none) = _
  rw [if_pos ⟨rfl, rfl⟩]
  show (match f_T_add [TD a, TD b] with | .ok d => some d | _ => none) = _
  rw [e]
/-! #### backwards -/
theorem backR_ok {rs : List Rn} (h : Alt rs) (hl : rs.length ≤ 80000) : f_backwards [TD rs] = .ok (TD rs.reverse) := by
  have p := p_runs rs
  have r : revD (.tup (rs.map rD)) = some (.tup (rs.reverse.map rD)) := by
    show some (D.tup _) = _; rw [← List.map_reverse]
  have i := init_ok (rs := rs.reverse) (x := .tup (rs.reverse.map rD)) (AsR.of rfl) (by simp; omega) (alt_rev h).pos
  rw [join_id (alt_rev h)] at i
  generalize rs.reverse.map rD = M at *
  generalize rs.map rD = N at *
  generalize TD rs.reverse = U at *
  refine ev_runF [.d (TD rs)] ?_
  apply Exists.intro
  unfold m_backwards
  array_mem_dec
/-! #### == and != -/
theorem isTx_TD (rs : List Rn) : isTx 20 (TD rs) = some (.bl true) := rfl
theorem eq_rows (a b : List Rn) : ∃ k, eqD (.tup (a.map rD)) (.tup (b.map rD)) = some (.bl k) ∧ (a = b → k = true) :=
  ⟨deq (.tup (a.map rD)) (.tup (b.map rD)), by rw [eqD, fine_okQ (fine_rs 0 a) (by decide), fine_okQ (fine_rs 0 b) (by decide)]; simp, fun e => by rw [e]; exact deq_fine _ _ (fine_rs 0 b)⟩
theorem teq_of {a b : List Rn} {k : Bool} (h : eqD (.tup (a.map rD)) (.tup (b.map rD)) = some (.bl k)) : f_T_eq [TD a, TD b] = .ok (.bl k) := by
  have h1 := slot1 a
  have h2 := p_runs b
  have h3 := isTx_TD b
  generalize a.map rD = A at *
  generalize b.map rD = B at *
  generalize TD a = t at *
  generalize TD b = u at *
  refine ev_runF [.d t, .d u] ⟨[.d t, .d u], ?_⟩
  unfold m_T_eq
  have g1 : op1E (isTx 20) (nameE 1) [.d t, .d u] = .ok (.d (.bl true)) [.d t, .d u] := by array_get_dec
  have g2 : op2E eqD (op1E (slotD 20 1) (nameE 0)) (op1E (propD 20 f_T_runs) (nameE 1)) [.d t, .d u] = .ok (.d (.bl k)) [.d t, .d u] := by array_get_dec
  exact ev_ret (by simp [andE, g1, g2, R.bind])
theorem eqX_of {a b : List Rn} {k : Bool} (h : eqD (.tup (a.map rD)) (.tup (b.map rD)) = some (.bl k)) : eqTx 20 f_T_eq (TD a) (TD b) = some (.bl k) := by
  have e := teq_of h
  show (if 20 = 20 ∧ 20 = 20 then (match f_T_eq [TD a, TD b] with | .ok (.bl k) => some (D.bl k) | _ => none) else none) = _
  rw [if_pos ⟨rfl, rfl⟩, e]
theorem neT_of {a b : List Rn} {k : Bool} (h : eqD (.tup (a.map rD)) (.tup (b.map rD)) = some (.bl k)) : neTD 20 f_T_eq (TD a) (TD b) = some (.bl (!k)) := by
  have e := teq_of h
  show (if 20 = 20 ∧ 20 = 20 then (match f_T_eq [TD a, TD b] with | .ok (.bl k) => some (D.bl (!k)) | _ => none) else none) = _
  rw [if_pos ⟨rfl, rfl⟩, e]
theorem allD_bls {α : Type} (l : List α) (p : α → Bool) : allD [.lst (l.map fun a => D.bl (p a))] = some (.bl (l.all p)) := by
  have e : (l.map fun a => D.bl (p a)) = (l.map p).map D.bl := by rw [List.map_map]; rfl
  rw [e, allD, allOf_map_bl]
  show some (D.bl ((l.map p).all id)) = _
  rw [List.all_map]; rfl
/-! #### is_run, is_runs -/
theorem isrun_ok {r : Rn} (h : 0 < r.2) : f_is_run [rD r] = .ok (.bl true) := by
  have e1 : isiE ["tuple"] (nameE 0) [.d (rD r)] = .ok (.d (.bl true)) [.d (rD r)] := rfl
  have e2 : lenD [rD r] = some (.int 2) := rfl
  have e3 : neD (.int 2) (.int 2) = some (.bl false) := rfl
  have a0 : atD (rD r) (.int 0) = some (hD r.1) := rfl
  have a1 : atD (rD r) (.int 1) = some (.int r.2) := rfl
  have n1 : f_is_number [.int r.2] = .ok (.bl true) := rfl
  have g1 : gtD (.int r.2) (.int 0) = some (.bl true) := by simp [gtD, h]
  have i1 : inD (hD r.1) (.tup [.str "a", .str "b"]) = some (.bl true) := by cases r.1 <;> rfl
  have s1 : isiE ["str"] (op2E atD (nameE 0) (constE (.int 0))) [.d (rD r)] = .ok (.d (.bl true)) [.d (rD r)] := by
    unfold isiE
    rw [show op2E atD (nameE 0) (constE (.int 0)) [.d (rD r)] = .ok (.d (hD r.1)) [.d (rD r)] from rfl]
    rfl
  generalize rD r = z at *
  refine ev_runF [.d z] ⟨[.d z], ?_⟩
  unfold m_is_run
  refine ev_seqN (ρ1 := [.d z]) (ev_ifS2 (b := false) (ρ1 := [.d z]) ?_ rfl ev_next) rfl ?_
  · have t1 : notT (valT (isiE ["tuple"] (nameE 0))) [.d z] = .ok false [.d z] := by simp [notT, valT, e1, R.bind]
    have t2 : valT (op2E neD (opNE lenD (consA (nameE 0) nilA)) (constE (.int 2))) [.d z] = .ok false [.d z] := by array_get_dec
    simp [orT, t1, t2, R.bind]
  · have g2 : op2E inD (op2E atD (nameE 0) (constE (.int 0))) (constE (.tup [(.str "a"), (.str "b")])) [.d z] = .ok (.d (.bl true)) [.d z] := by array_get_dec
    have g3 : callE f_is_number (consA (op2E atD (nameE 0) (constE (.int 1))) nilA) [.d z] = .ok (.d (.bl true)) [.d z] := by array_get_dec
    have g4 : op2E gtD (op2E atD (nameE 0) (constE (.int 1))) (constE (.int 0)) [.d z] = .ok (.d (.bl true)) [.d z] := by array_get_dec
    exact ev_ret (by simp [andE, s1, g2, g3, g4, R.bind])
theorem zip_rows : ∀ (a b : List Rn), zipD (a.map rD) (b.map rD) = (a.zip b).map fun p => D.tup [rD p.1, rD p.2]
  | [], _ => rfl
  | _ :: _, [] => rfl
  | x :: a, y :: b => by
    have := zip_rows a b
    simp only [List.map_cons, List.zip_cons_cons]
    rw [← this]; rfl
theorem alt_zip : ∀ {rs : List Rn}, Alt rs → ∀ p ∈ rs.zip (rs.drop 1), p.1.1 ≠ p.2.1
  | [], _, p, hp => by cases hp
  | [r], _, p, hp => by simp at hp
  | r :: s :: l, h, p, hp => by
    have t := alt_zip h.2.2
    simp only [List.drop_succ_cons, List.drop_zero, List.zip_cons_cons, List.mem_cons] at hp t
    rcases hp with rfl | hp
    · exact h.2.1
    · exact t p hp
theorem isruns_ok {rs : List Rn} (h : Alt rs) (hl : rs.length ≤ 90000) : f_is_runs [.tup (rs.map rD)] = .ok (.bl true) := by
  have c1 : m_is_runs_c1 [.d (.tup (rs.map rD)), .no, .no, .no] = .ok (rs.map fun _ => D.bl true) [.d (.tup (rs.map rD)), .no, .no, .no] := by
    refine comp_m (vs := [3]) (gd := nameG 3) (ρ0 := [.d (.tup (rs.map rD)), .no, .no, .no]) (l := rs) (e := rD) (g := fun _ => D.bl true) (ev_seqI (x := .tup (rs.map rD)) rfl rfl) rfl (by omega) (fun r hr => ⟨[.d (.tup (rs.map rD)), .no, .no, .d (rD r)], rfl, ?_, rfl⟩)
    have := isrun_ok (h.pos r hr)
    unfold m_is_runs_e1
    exact ev_call (ev_consA (ev_name rfl) ev_nilA) rfl this rfl
  have ec : cutD (.tup (rs.map rD)) (some 1) none = some (.tup ((rs.drop 1).map rD)) := by
    show some (D.tup (cutL (rs.map rD) (some ((1 : Nat) : Int)) none)) = _
    rw [cutL_at, List.map_drop]
  have c2 : m_is_runs_c2 [.d (.tup (rs.map rD)), .no, .no, .no] = .ok ((rs.zip (rs.drop 1)).map fun _ => D.bl true) [.d (.tup (rs.map rD)), .no, .no, .no] := by
    refine comp_m (vs := [1, 2]) (gd := tupG 2 (consG (nameG 1) (consG (nameG 2) nilG))) (ρ0 := [.d (.tup (rs.map rD)), .no, .no, .no]) (l := rs.zip (rs.drop 1)) (e := fun p => D.tup [rD p.1, rD p.2]) (g := fun _ => D.bl true) ?_ rfl (by rw [List.length_zip]; omega) (fun p hp => ⟨[.d (.tup (rs.map rD)), .d (rD p.1), .d (rD p.2), .no], rfl, ?_, rfl⟩) rfl
    · rw [← zip_rows]
      have a : (consA (nameE 0) (consA (slE (nameE 0) (aPart (constE (.int 1))) noPart) nilA)) [.d (.tup (rs.map rD)), .no, .no, .no] = .ok [.d (.tup (rs.map rD)), .d (.tup ((rs.drop 1).map rD))] [.d (.tup (rs.map rD)), .no, .no, .no] := ev_consA (ev_name rfl) (ev_consA (ev_sl (ev_name rfl) (ev_aPart ev_const) ev_noPart rfl ec) ev_nilA)
      simp only [zipI, a, R.bind]
    · have hne := alt_zip h p hp
      have a0 : atD (rD p.1) (.int 0) = some (hD p.1.1) := rfl
      have a1 : atD (rD p.2) (.int 0) = some (hD p.2.1) := rfl
      have ne : neD (hD p.1.1) (hD p.2.1) = some (.bl true) := by
        cases h1 : p.1.1 <;> cases h2 : p.2.1 <;> first | (exfalso; exact hne (h1.trans h2.symm)) | rfl
      generalize rs.map rD = L
      unfold m_is_runs_e2
      array_get_dec
  have al : ∀ {α : Type} (l : List α), allD [.lst (l.map fun _ => D.bl true)] = some (.bl true) := fun l => by
    have := allD_bls l fun _ => true
    rw [this]; simp
  have al1 := al rs
  have al2 := al (rs.zip (rs.drop 1))
  generalize (rs.map fun _ => D.bl true) = A at *
  generalize ((rs.zip (rs.drop 1)).map fun _ => D.bl true) = B at *
  have e1 : isiE ["tuple"] (nameE 0) [.d (.tup (rs.map rD)), .no, .no, .no] = .ok (.d (.bl true)) [.d (.tup (rs.map rD)), .no, .no, .no] := rfl
  refine ev_runF [.d (.tup (rs.map rD)), .no, .no, .no] ⟨[.d (.tup (rs.map rD)), .no, .no, .no], ?_⟩
  generalize rs.map rD = L at *
  unfold m_is_runs
  refine ev_seqN (ρ1 := [.d (.tup L), .no, .no, .no]) (ev_ifS2 (b := false) (ρ1 := [.d (.tup L), .no, .no, .no]) ?_ rfl ev_next) rfl ?_
  · have t1 : notT (valT (isiE ["tuple"] (nameE 0))) [.d (.tup L), .no, .no, .no] = .ok false [.d (.tup L), .no, .no, .no] := by simp [notT, valT, e1, R.bind]
    have t2 : notT (valT (opNE allD (consA (frzE m_is_runs_c1) nilA))) [.d (.tup L), .no, .no, .no] = .ok false [.d (.tup L), .no, .no, .no] := ev_notT (b := true) (ev_val (ev_opN (ev_consA (ev_frz c1) ev_nilA) rfl al1))
    simp [orT, t1, t2, R.bind]
  · exact ev_ret (ev_opN (ev_consA (ev_frz c2) ev_nilA) rfl al2)
end
section
/-! ### rows with a pair that is none -/
abbrev Pn := Str × Int
def pD (p : Pn) : D := .tup [.str p.1, .int p.2]
def pL (p : Pn) : D := .lst [.str p.1, .int p.2]
def rP (r : Rn) : Pn := (hS r.1, r.2)
/-- a pair that is none -/
def badP (p : Pn) : Prop := ninD (.str p.1) (.tup [.str "a", .str "b"]) = some (.bl true) ∨ (ninD (.str p.1) (.tup [.str "a", .str "b"]) = some (.bl false) ∧ p.2 < 1)
theorem tupled_str (n : Nat) (s : Str) : f_tupled (n + 1) [.str s] = .ok (.str s) := by simp [f_tupled, m_tupled, Lq.runF, Lq.runB, Lq.runL, Lq.boxAt, Lq.startR, Lq.seqS, Lq.nextS, Lq.ifS, Lq.asgS, Lq.asgM, Lq.asgG, Lq.retS, Lq.retF, Lq.dropS, Lq.forS, Lq.putItem, Lq.isMB, Lq.putS1, Lq.parS, Lq.consMd, Lq.consMf', Lq.noErr, Lq.nilM, Lq.setsR, Lq.nameE, Lq.constE, Lq.op1E, Lq.op2E, Lq.opNE, Lq.opNF, Lq.op2F, Lq.lift1, Lq.lift2, Lq.liftN, Lq.res, Lq.resAll, Lq.valT, Lq.notT, Lq.andT, Lq.orT, Lq.andE, Lq.orE, Lq.notE, Lq.ifE, Lq.consA, Lq.nilA, Lq.frzE, Lq.lstF, Lq.tupE, Lq.callE, Lq.callBE, Lq.callL, Lq.callNew, Lq.slotted, Lq.datAll, Lq.appE, Lq.popE, Lq.yesT, Lq.wipeR, Lq.backR, Lq.plainC, Lq.nameG, Lq.tupG, Lq.consG, Lq.nilG, Lq.seqI, Lq.rngI1, Lq.rngI2, Lq.enumI, Lq.zipI, Lq.isiE, Lq.slE, Lq.aPart, Lq.noPart, Lq.chainE, Lq.strM, Lq.orF, Lq.R.bind, Lq.R.thnO, Lq.raiseS, Lq.raise0S, Lq.tryS, Lq.hNil, Lq.hAs, Lq.goneS, Lq.enumA, Lq.enumK, Lq.ifF, Lq.permA, Lq.permL, Lq.D.noL, Lq.noLs, Lq.isEx, Lq.fldD, Lq.isErrD, Lq.itemsOf, Lq.onlyB, Lq.isB, Lq.D.flat, Lq.starA, Lq.extE, Lq.augS, Lq.ixTE, Lq.mvS, Lq.dfA, Lq.slotD, Lq.propD, Lq.mkE, Lq.mkE0, Lq.callNewN, Lq.isErrND, Lq.callME, Lq.isBD, Lq.addD, Lq.catF, Lq.subD, Lq.negD, Lq.ltD, Lq.leD, Lq.gtD, Lq.geD, Lq.eqD, Lq.neD, Lq.sameKind, Lq.isD, Lq.isntD, Lq.isNon, Lq.lenD, Lq.isiB, Lq.tyName, Lq.notObj, Lq.D.items?, Lq.fits, L2.atI, L2.ixN]
theorem tupled_int (n : Nat) (i : Int) : f_tupled (n + 1) [.int i] = .ok (.int i) := tupled_flat (.inr ⟨i, rfl⟩)
theorem tupled_pn {n : Nat} {p : Pn} {d : D} (hx : d.items? = some [.str p.1, .int p.2]) : f_tupled (n + 2) [d] = .ok (pD p) := by
  have e := tupled_step (n := n + 1) id hx (by simp) (fun y hy => by
    rcases List.mem_cons.1 hy with rfl | hy
    · exact tupled_str n p.1
    · rw [List.mem_singleton.1 hy]; exact tupled_int n p.2)
  rw [e, List.map_id]; rfl
theorem tupled_pD {ps : List Pn} (hl : ps.length ≤ 90000) : f_tupled 8 [.tup (ps.map pD)] = .ok (.tup (ps.map pD)) := by
  have e := tupled_step (n := 7) (d := .tup (ps.map pD)) id rfl (by rw [List.length_map]; omega) (fun y hy => by
    obtain ⟨p, _, rfl⟩ := List.mem_map.1 hy
    exact tupled_pn (n := 5) (p := p) rfl)
  rw [e, List.map_id]
theorem tupled_pL {ps : List Pn} (hl : ps.length ≤ 90000) : f_tupled 8 [.lst (ps.map pL)] = .ok (.tup (ps.map pD)) := by
  have e := tupled_step (n := 7) (d := .lst (ps.map pL)) (fun d => match d with | .lst ys => .tup ys | y => y) rfl (by rw [List.length_map]; omega) (fun y hy => by
    obtain ⟨p, _, rfl⟩ := List.mem_map.1 hy
    exact tupled_pn (n := 5) (p := p) rfl)
  rw [e, List.map_map]; rfl
def eRun (k : Nat) : Xn := ⟨0, [.int (k : Nat)]⟩
theorem init_turn_bad {x y : D} {i : Nat} {p : Pn} {c3 c4 c5 : Cell} (h : badP p) : turnS m_T_init_g1 m_T_init_b1 (.tup [.int (i : Nat), pD p]) [.s 20, .d x, .d y, c3, c4, c5] = .err (eRun i) [.s 20, .d x, .d y, .d (.int i), .d (.str p.1), .d (.int p.2)] := by
  rcases h with e | ⟨e, h2⟩
  · simp [turnS, m_T_init_g1, m_T_init_b1, Lq.runF, Lq.runB, Lq.runL, Lq.boxAt, Lq.startR, Lq.seqS, Lq.nextS, Lq.ifS, Lq.asgS, Lq.asgM, Lq.asgG, Lq.retS, Lq.retF, Lq.dropS, Lq.forS, Lq.putItem, Lq.isMB, Lq.putS1, Lq.parS, Lq.consMd, Lq.consMf', Lq.noErr, Lq.nilM, Lq.setsR, Lq.nameE, Lq.constE, Lq.op1E, Lq.op2E, Lq.opNE, Lq.opNF, Lq.op2F, Lq.lift1, Lq.lift2, Lq.liftN, Lq.res, Lq.resAll, Lq.valT, Lq.notT, Lq.andT, Lq.orT, Lq.andE, Lq.orE, Lq.notE, Lq.ifE, Lq.consA, Lq.nilA, Lq.frzE, Lq.lstF, Lq.tupE, Lq.callE, Lq.callBE, Lq.callL, Lq.callNew, Lq.slotted, Lq.datAll, Lq.appE, Lq.popE, Lq.yesT, Lq.wipeR, Lq.backR, Lq.plainC, Lq.nameG, Lq.tupG, Lq.consG, Lq.nilG, Lq.seqI, Lq.rngI1, Lq.rngI2, Lq.enumI, Lq.zipI, Lq.isiE, Lq.slE, Lq.aPart, Lq.noPart, Lq.chainE, Lq.strM, Lq.orF, Lq.R.bind, Lq.R.thnO, Lq.raiseS, Lq.raise0S, Lq.tryS, Lq.hNil, Lq.hAs, Lq.goneS, Lq.enumA, Lq.enumK, Lq.ifF, Lq.permA, Lq.permL, Lq.D.noL, Lq.noLs, Lq.isEx, Lq.fldD, Lq.isErrD, Lq.itemsOf, Lq.onlyB, Lq.isB, Lq.D.flat, Lq.starA, Lq.extE, Lq.augS, Lq.ixTE, Lq.mvS, Lq.dfA, Lq.slotD, Lq.propD, Lq.mkE, Lq.mkE0, Lq.callNewN, Lq.isErrND, Lq.callME, Lq.isBD, Lq.addD, Lq.catF, Lq.subD, Lq.negD, Lq.ltD, Lq.leD, Lq.gtD, Lq.geD, Lq.eqD, Lq.neD, Lq.sameKind, Lq.isD, Lq.isntD, Lq.isNon, Lq.lenD, Lq.isiB, Lq.tyName, Lq.notObj, Lq.D.items?, Lq.fits, L2.atI, L2.ixN, pD, e, eRun, raiseS, consA, nilA]
  · simp [turnS, m_T_init_g1, m_T_init_b1, Lq.runF, Lq.runB, Lq.runL, Lq.boxAt, Lq.startR, Lq.seqS, Lq.nextS, Lq.ifS, Lq.asgS, Lq.asgM, Lq.asgG, Lq.retS, Lq.retF, Lq.dropS, Lq.forS, Lq.putItem, Lq.isMB, Lq.putS1, Lq.parS, Lq.consMd, Lq.consMf', Lq.noErr, Lq.nilM, Lq.setsR, Lq.nameE, Lq.constE, Lq.op1E, Lq.op2E, Lq.opNE, Lq.opNF, Lq.op2F, Lq.lift1, Lq.lift2, Lq.liftN, Lq.res, Lq.resAll, Lq.valT, Lq.notT, Lq.andT, Lq.orT, Lq.andE, Lq.orE, Lq.notE, Lq.ifE, Lq.consA, Lq.nilA, Lq.frzE, Lq.lstF, Lq.tupE, Lq.callE, Lq.callBE, Lq.callL, Lq.callNew, Lq.slotted, Lq.datAll, Lq.appE, Lq.popE, Lq.yesT, Lq.wipeR, Lq.backR, Lq.plainC, Lq.nameG, Lq.tupG, Lq.consG, Lq.nilG, Lq.seqI, Lq.rngI1, Lq.rngI2, Lq.enumI, Lq.zipI, Lq.isiE, Lq.slE, Lq.aPart, Lq.noPart, Lq.chainE, Lq.strM, Lq.orF, Lq.R.bind, Lq.R.thnO, Lq.raiseS, Lq.raise0S, Lq.tryS, Lq.hNil, Lq.hAs, Lq.goneS, Lq.enumA, Lq.enumK, Lq.ifF, Lq.permA, Lq.permL, Lq.D.noL, Lq.noLs, Lq.isEx, Lq.fldD, Lq.isErrD, Lq.itemsOf, Lq.onlyB, Lq.isB, Lq.D.flat, Lq.starA, Lq.extE, Lq.augS, Lq.ixTE, Lq.mvS, Lq.dfA, Lq.slotD, Lq.propD, Lq.mkE, Lq.mkE0, Lq.callNewN, Lq.isErrND, Lq.callME, Lq.isBD, Lq.addD, Lq.catF, Lq.subD, Lq.negD, Lq.ltD, Lq.leD, Lq.gtD, Lq.geD, Lq.eqD, Lq.neD, Lq.sameKind, Lq.isD, Lq.isntD, Lq.isNon, Lq.lenD, Lq.isiB, Lq.tyName, Lq.notObj, Lq.D.items?, Lq.fits, L2.atI, L2.ixN, pD, e, h2, eRun, raiseS, consA, nilA]
theorem init_turnP {x y : D} {i : Nat} {r : Rn} {c3 c4 c5 : Cell} (h : 0 < r.2) : turnS m_T_init_g1 m_T_init_b1 (.tup [.int (i : Nat), rD r]) [.s 20, .d x, .d y, c3, c4, c5] = .nx [.s 20, .d x, .d y, .d (.int i), .d (hD r.1), .d (.int r.2)] := by
  have e := in_heirs r.1
  have h2 : ¬ r.2 < 1 := by omega
  simp [turnS, m_T_init_g1, m_T_init_b1, Lq.runF, Lq.runB, Lq.runL, Lq.boxAt, Lq.startR, Lq.seqS, Lq.nextS, Lq.ifS, Lq.asgS, Lq.asgM, Lq.asgG, Lq.retS, Lq.retF, Lq.dropS, Lq.forS, Lq.putItem, Lq.isMB, Lq.putS1, Lq.parS, Lq.consMd, Lq.consMf', Lq.noErr, Lq.nilM, Lq.setsR, Lq.nameE, Lq.constE, Lq.op1E, Lq.op2E, Lq.opNE, Lq.opNF, Lq.op2F, Lq.lift1, Lq.lift2, Lq.liftN, Lq.res, Lq.resAll, Lq.valT, Lq.notT, Lq.andT, Lq.orT, Lq.andE, Lq.orE, Lq.notE, Lq.ifE, Lq.consA, Lq.nilA, Lq.frzE, Lq.lstF, Lq.tupE, Lq.callE, Lq.callBE, Lq.callL, Lq.callNew, Lq.slotted, Lq.datAll, Lq.appE, Lq.popE, Lq.yesT, Lq.wipeR, Lq.backR, Lq.plainC, Lq.nameG, Lq.tupG, Lq.consG, Lq.nilG, Lq.seqI, Lq.rngI1, Lq.rngI2, Lq.enumI, Lq.zipI, Lq.isiE, Lq.slE, Lq.aPart, Lq.noPart, Lq.chainE, Lq.strM, Lq.orF, Lq.R.bind, Lq.R.thnO, Lq.raiseS, Lq.raise0S, Lq.tryS, Lq.hNil, Lq.hAs, Lq.goneS, Lq.enumA, Lq.enumK, Lq.ifF, Lq.permA, Lq.permL, Lq.D.noL, Lq.noLs, Lq.isEx, Lq.fldD, Lq.isErrD, Lq.itemsOf, Lq.onlyB, Lq.isB, Lq.D.flat, Lq.starA, Lq.extE, Lq.augS, Lq.ixTE, Lq.mvS, Lq.dfA, Lq.slotD, Lq.propD, Lq.mkE, Lq.mkE0, Lq.callNewN, Lq.isErrND, Lq.callME, Lq.isBD, Lq.addD, Lq.catF, Lq.subD, Lq.negD, Lq.ltD, Lq.leD, Lq.gtD, Lq.geD, Lq.eqD, Lq.neD, Lq.sameKind, Lq.isD, Lq.isntD, Lq.isNon, Lq.lenD, Lq.isiB, Lq.tyName, Lq.notObj, Lq.D.items?, Lq.fits, L2.atI, L2.ixN, rD, e, h2]
theorem init_loop_bad {x y : D} {p : Pn} {tl : List D} (hb : badP p) : ∀ (qs : List Rn) (i : Nat) (c3 c4 c5 : Cell), (∀ r ∈ qs, 0 < r.2) → ∃ ρ, loopS (turnS m_T_init_g1 m_T_init_b1) (((qs.map rD ++ pD p :: tl).zipIdx i).map fun p => D.tup [.int (p.2 : Nat), p.1]) [.s 20, .d x, .d y, c3, c4, c5] = .err (eRun (i + qs.length)) ρ
  | [], i, c3, c4, c5, _ => ⟨[.s 20, .d x, .d y, .d (.int i), .d (.str p.1), .d (.int p.2)], by
    rw [List.map_nil, List.nil_append, List.zipIdx_cons, List.map_cons, loopS, init_turn_bad hb]; rfl⟩
  | q :: qs, i, c3, c4, c5, h => by
    obtain ⟨ρ, e⟩ := init_loop_bad (x := x) (y := y) (tl := tl) hb qs (i + 1) (.d (.int i)) (.d (hD q.1)) (.d (.int q.2)) fun r hr => h r (List.mem_cons_of_mem _ hr)
    refine ⟨ρ, ?_⟩
    rw [List.map_cons, List.cons_append, List.zipIdx_cons, List.map_cons, loopS, init_turnP (h q List.mem_cons_self)]
    rw [List.length_cons, show i + (qs.length + 1) = i + 1 + qs.length by omega]
    exact e
theorem init_bad {rs : List Rn} {p : Pn} {tl : List D} {x : D} (hx : f_tupled 8 [x] = .ok (.tup (rs.map rD ++ pD p :: tl))) (hp : ∀ r ∈ rs, 0 < r.2) (hb : badP p) : f_T_init [x] = .err (eRun rs.length) := by
  obtain ⟨ρ, e⟩ := init_loop_bad (x := x) (y := .tup (rs.map rD ++ pD p :: tl)) (tl := tl) hb rs 0 .no .no .no hp
  rw [Nat.zero_add] at e
  generalize hL : rs.map rD ++ pD p :: tl = L at *
  have e1 : m_T_init_s1 [.s 20, .d x, .no, .no, .no, .no] = .nx [.s 20, .d x, .d (.tup L), .no, .no, .no] := by
    simp [m_T_init_s1, Lq.runF, Lq.runB, Lq.runL, Lq.boxAt, Lq.startR, Lq.seqS, Lq.nextS, Lq.ifS, Lq.asgS, Lq.asgM, Lq.asgG, Lq.retS, Lq.retF, Lq.dropS, Lq.forS, Lq.loopS, Lq.turnS, Lq.putItem, Lq.isMB, Lq.putS1, Lq.parS, Lq.consMd, Lq.consMf', Lq.noErr, Lq.nilM, Lq.setsR, Lq.nameE, Lq.constE, Lq.op1E, Lq.op2E, Lq.opNE, Lq.opNF, Lq.op2F, Lq.lift1, Lq.lift2, Lq.liftN, Lq.res, Lq.resAll, Lq.valT, Lq.notT, Lq.andT, Lq.orT, Lq.andE, Lq.orE, Lq.notE, Lq.ifE, Lq.consA, Lq.nilA, Lq.frzE, Lq.lstF, Lq.tupE, Lq.callE, Lq.callBE, Lq.callL, Lq.callNew, Lq.slotted, Lq.datAll, Lq.appE, Lq.popE, Lq.compF, Lq.compLoop, Lq.compTurn, Lq.yesT, Lq.wipeR, Lq.backR, Lq.plainC, Lq.nameG, Lq.tupG, Lq.consG, Lq.nilG, Lq.seqI, Lq.rngI1, Lq.rngI2, Lq.enumI, Lq.zipI, Lq.isiE, Lq.slE, Lq.aPart, Lq.noPart, Lq.chainE, Lq.strM, Lq.orF, Lq.R.bind, Lq.R.thnO, Lq.raiseS, Lq.raise0S, Lq.tryS, Lq.hNil, Lq.hAs, Lq.goneS, Lq.enumA, Lq.enumK, Lq.ifF, Lq.permA, Lq.permL, Lq.D.noL, Lq.noLs, Lq.isEx, Lq.fldD, Lq.isErrD, Lq.itemsOf, Lq.onlyB, Lq.isB, Lq.D.flat, Lq.starA, Lq.extE, Lq.augS, Lq.ixTE, Lq.mvS, Lq.dfA, Lq.slotD, Lq.propD, Lq.mkE, Lq.mkE0, Lq.callNewN, Lq.isErrND, Lq.callME, hx]
  have e2 : m_T_init_s2 [.s 20, .d x, .d (.tup L), .no, .no, .no] = .err (eRun rs.length) ρ := by
    simp only [m_T_init_s2, m_T_init_l1, forS, items_enum (x := .tup L) (i := 2) (ρ := [.s 20, .d x, .d (.tup L), .no, .no, .no]) rfl rfl, R.thnO]
    exact e
  simp [f_T_init, initT, startR, seqS, e1, e2]
/-! #### what is kept of rows -/
theorem kept_bad {x : D} {k : Nat} (hi : f_T_init [x] = .err (eRun k)) : f_law_kept [x] = .ok (.lst [.int (k : Nat), .bl true, .bl true]) := by
  refine ev_runF [.d x, .no, .no, .no] ?_
  apply Exists.intro
  unfold m_law_kept
  refine ev_seqN (ρ1 := [.d x, .d .non, .d .non, .no]) rfl rfl ?_
  refine ev_seqN (ρ1 := [.d x, .d .non, .d (.obj 0 [.int (k : Nat)]), .no]) (ev_tryX (e := eRun k) (ρ1 := [.d x, .d .non, .d .non, .no]) (ev_asgX (ev_callX (e := eRun k) (ds := [x]) rfl rfl hi rfl)) rfl) rfl ?_
  rfl
end
section
/-! ### what a case asks, piece by piece -/
theorem turned_ok {b : Cell} {B d : D} {a : List Rn} {c5 c6 c7 : Cell} (h : a.length ≤ 90000) : m_law_case_right_c1 [b, .d (.tup (a.map rD)), .d B, .d d, .no, c5, c6, c7, .no, .no, .no, .no, .no, .no, .no, .no, .no] = .ok ((a.map swp).map rD) [b, .d (.tup (a.map rD)), .d B, .d d, .no, c5, c6, c7, .no, .no, .no, .no, .no, .no, .no, .no, .no] := by
  rw [List.map_map]
  refine comp_m (vs := [8]) (ρ0 := [b, .d (.tup (a.map rD)), .d B, .d d, .no, c5, c6, c7, .no, .no, .no, .no, .no, .no, .no, .no, .no]) (l := a) (e := rD) (g := fun r => rD (swp r)) (ev_seqI (x := .tup (a.map rD)) rfl rfl) rfl (by omega) (fun r _ => ⟨[b, .d (.tup (a.map rD)), .d B, .d d, .no, c5, c6, c7, .d (rD r), .no, .no, .no, .no, .no, .no, .no, .no], rfl, ?_, rfl⟩)
  have a0 : atD (rD r) (.int 0) = some (hD r.1) := rfl
  have a1 : atD (rD r) (.int 1) = some (.int r.2) := rfl
  have ea := ehA r.1
  generalize D.tup (a.map rD) = A
  unfold m_law_case_right_e1
  have g1 : valT (op2E eqD (op2E atD (nameE 8) (constE (.int 0))) (constE (.str "a"))) [b, .d A, .d B, .d d, .no, c5, c6, c7, .d (rD r), .no, .no, .no, .no, .no, .no, .no, .no] = .ok r.1 [b, .d A, .d B, .d d, .no, c5, c6, c7, .d (rD r), .no, .no, .no, .no, .no, .no, .no, .no] :=
    ev_val (ev_op2 (ev_op2 (ev_name rfl) ev_const rfl rfl a0) ev_const rfl rfl ea)
  have g2 : op2E atD (nameE 8) (constE (.int 1)) [b, .d A, .d B, .d d, .no, c5, c6, c7, .d (rD r), .no, .no, .no, .no, .no, .no, .no, .no] = .ok (.d (.int r.2)) [b, .d A, .d B, .d d, .no, c5, c6, c7, .d (rD r), .no, .no, .no, .no, .no, .no, .no, .no] :=
    ev_op2 (ev_name rfl) ev_const rfl rfl a1
  have g3 : ifE (valT (op2E eqD (op2E atD (nameE 8) (constE (.int 0))) (constE (.str "a")))) (constE (.str "b")) (constE (.str "a")) [b, .d A, .d B, .d d, .no, c5, c6, c7, .d (rD r), .no, .no, .no, .no, .no, .no, .no, .no] = .ok (.d (hD (!r.1))) [b, .d A, .d B, .d d, .no, c5, c6, c7, .d (rD r), .no, .no, .no, .no, .no, .no, .no, .no] := by
    cases hr : r.1
    · rw [hr] at g1; exact ev_ifE2 g1 rfl ev_const
    · rw [hr] at g1; exact ev_ifE1 g1 rfl ev_const
  exact ev_tup (vs := [.d (hD (!r.1)), .d (.int r.2)]) (ev_consA g3 (ev_consA g2 ev_nilA)) rfl (by simp)
/-! #### rows with a pair that is none at a place -/
def stranges : List Pn := [("a", 0), ("b", -1), ("c", 1), ("aa", 2), ("B", 3), ("", 1)]
theorem strange_bad : ∀ p ∈ stranges, badP p := fun p hp => by
  simp only [stranges, List.mem_cons, List.not_mem_nil, or_false] at hp
  rcases hp with rfl | rfl | rfl | rfl | rfl | rfl
  · exact .inr ⟨rfl, by decide⟩
  · exact .inr ⟨rfl, by decide⟩
  · exact .inl rfl
  · exact .inl rfl
  · exact .inl rfl
  · exact .inl rfl
def oddP (a : List Rn) (k : Nat) (p : Pn) : List Pn := (a.take k).map rP ++ p :: ((a.drop k).map rP ++ [(("a", 0) : Pn)])
theorem map_rP (rs : List Rn) : (rs.map rP).map pD = rs.map rD := by rw [List.map_map]; rfl
theorem odd_rows (a : List Rn) (k : Nat) (p : Pn) : (oddP a k p).map pD = (a.take k).map rD ++ pD p :: ((a.drop k).map rD ++ [pD ("a", 0)]) := by
  unfold oddP
  rw [List.map_append, map_rP, List.map_cons, List.map_append, map_rP]; rfl
theorem odd_len (a : List Rn) (k : Nat) (p : Pn) : (oddP a k p).length = a.length + 2 := by
  unfold oddP
  simp only [List.length_append, List.length_map, List.length_take, List.length_cons, List.length_drop, List.length_nil]
  omega
theorem lists_odd {ps : List Pn} (hl : ps.length ≤ 1000) : f_law_lists 8 [.tup (ps.map pD)] = .ok (.lst (ps.map pL)) :=
  lst_seq (n := 7) (x := .tup (ps.map pD)) (l := ps) (e := pD) (g := pL) rfl hl fun p _ => lst_pair 5 p.1 p.2
theorem odd_kept {a : List Rn} {k : Nat} {p : Pn} (hl : a.length ≤ 900) (hk : k ≤ a.length) (ha : ∀ r ∈ a, 0 < r.2) (hp : badP p) : f_law_kept [.tup ((oddP a k p).map pD)] = .ok (.lst [.int (k : Nat), .bl true, .bl true]) ∧ f_law_kept [.lst ((oddP a k p).map pL)] = .ok (.lst [.int (k : Nat), .bl true, .bl true]) := by
  have ol := odd_len a k p
  have t1 := tupled_pD (ps := oddP a k p) (by omega)
  have t2 := tupled_pL (ps := oddP a k p) (by omega)
  have tl : (a.take k).length = k := by rw [List.length_take]; omega
  have hq : ∀ r ∈ a.take k, 0 < r.2 := fun r hr => ha r (List.mem_of_mem_take hr)
  have r1 := odd_rows a k p
  rw [show (D.tup ((oddP a k p).map pD) : D) = .tup ((a.take k).map rD ++ pD p :: ((a.drop k).map rD ++ [pD ("a", 0)])) from by rw [r1]] at t2
  have i2 := init_bad t2 hq hp
  have i1 := init_bad (x := .tup ((oddP a k p).map pD)) (tl := (a.drop k).map rD ++ [pD ("a", 0)]) (by rw [t1, r1]) hq hp
  rw [tl] at i1 i2
  exact ⟨kept_bad i1, kept_bad i2⟩
end
section
/-! ### a case -/
theorem tup_add (xs ys : List D) (h : xs.length + ys.length ≤ 1000000) : addD (.tup xs) (.tup ys) = some (.tup (xs ++ ys)) := dv_addT h
theorem rows_add (a b : List Rn) (h : a.length + b.length ≤ 90000) : addD (.tup (a.map rD)) (.tup (b.map rD)) = some (.tup ((a ++ b).map rD)) := by
  rw [List.map_append]; exact tup_add _ _ (by simp; omega)
theorem nest_rows (a : List Rn) : (a.map rL).all nestOk = true := List.all_eq_true.2 fun d hd => by
  obtain ⟨r, _, rfl⟩ := List.mem_map.1 hd
  rfl
section
variable {k : Nat} {ns : List Int} {a b : List Rn}
theorem case_nest (la : a.length ≤ 12) (lb : b.length ≤ 12) (pa : ∀ r ∈ a, 0 < r.2) (pb : ∀ r ∈ b, 0 < r.2) :
    nestS 3 4 5 6 7 8 (callE f_law_due (consA (nameE 1) nilA)) (callE (f_law_lists 8) (consA (nameE 1) nilA)) (consA (callE f_T_init (consA (nameE 1) nilA)) (consA (callE f_T_init (consA (nameE 4) nilA)) (consA (callE f_T_init (consA (nameE 2) nilA)) nilA)))
      [.b ns, .d (.tup (a.map rD)), .d (.tup (b.map rD)), .no, .no, .no, .no, .no, .no, .no, .no, .no, .no, .no, .no, .no, .no] =
    .nx [.b ns, .d (.tup (a.map rD)), .d (.tup (b.map rD)), .d (showD (joinR a)), .no, .d (TD (joinR a)), .d (TD (joinR a)), .d (TD (joinR b)), .no, .no, .no, .no, .no, .no, .no, .no, .no] := by
  have d1 := due_ok (rs := a) (by omega)
  have l1 := lists_rs (rs := a) (by omega)
  have i1 := init_ok (rs := a) (x := .tup (a.map rD)) (AsR.of rfl) (by omega) pa
  have i2 := init_ok (rs := a) (x := .lst (a.map rL)) (AsR_L a) (by omega) pa
  have i3 := init_ok (rs := b) (x := .tup (b.map rD)) (AsR.of rfl) (by omega) pb
  have n1 := TD_noL (joinR a)
  have n2 := TD_noL (joinR b)
  have na : (D.tup (a.map rD)).noL = true := by unfold D.noL; exact noLs_map rD (fun _ => rfl) a
  have nb : (D.tup (b.map rD)).noL = true := by unfold D.noL; exact noLs_map rD (fun _ => rfl) b
  have hn := nest_rows a
  have hlen : (a.map rL).length = a.length := List.length_map _
  generalize TD (joinR a) = T1 at *
  generalize TD (joinR b) = T2 at *
  generalize showD (joinR a) = s1 at *
  generalize a.map rL = L at *
  generalize D.tup (a.map rD) = A at *
  generalize D.tup (b.map rD) = B at *
  have cl : cleanR [.b ns, .d A, .d B, .no, .no, .no, .no, .no, .no, .no, .no, .no, .no, .no, .no, .no, .no] = [.no, .d A, .d B, .no, .no, .no, .no, .no, .no, .no, .no, .no, .no, .no, .no, .no, .no] := by
    simp [cleanR, cleanC, na, nb]
  refine ev_nest (ρ1 := [.b ns, .d A, .d B, .no, .no, .no, .no, .no, .no, .no, .no, .no, .no, .no, .no, .no, .no]) (x0 := s1) (ls := L) (ns := ns) (y0 := T1) (y1 := T1) (y2 := T2) (ρ2 := [.no, .d A, .d B, .no, .no, .no, .no, .no, .no, .no, .no, .no, .no, .no, .no, .no, .no]) (ρ5 := [.b ns, .d A, .d B, .d s1, .d (.lst L), .no, .no, .no, .no, .no, .no, .no, .no, .no, .no, .no, .no]) ?_ ?_ ?_ ?_ rfl ?_ rfl
  · exact ev_call (ev_consA (ev_name rfl) ev_nilA) rfl d1 rfl
  · rw [cl]
    exact ev_call (ev_consA (ev_name rfl) ev_nilA) rfl l1 rfl
  · have pl : plB [.b ns, .d A, .d B, .no, .no, .no, .no, .no, .no, .no, .no, .no, .no, .no, .no, .no, .no] = true := rfl
    have ft : fits (L.length + 1) = true := by unfold fits; exact decide_eq_true (by omega)
    rw [hn, ft, pl]; rfl
  · exact ev_consA (ev_call (ev_consA (ev_name rfl) ev_nilA) rfl i1 rfl) (ev_consA (ev_call (ev_consA (ev_name rfl) ev_nilA) rfl i2 rfl) (ev_consA (ev_call (ev_consA (ev_name rfl) ev_nilA) rfl i3 rfl) ev_nilA))
  · rw [n1, n2]; rfl
end
end
section
/-! ### a case, to its end -/
def rg7 (ns : List Int) (A B s T1 T2 : D) (c9 c10 c11 c12 c13 c14 c15 c16 : Cell) : Rho := [.b ns, .d A, .d B, .d s, .no, .d T1, .d T1, .d T2, .no, c9, c10, c11, c12, c13, c14, c15, c16]
theorem good_show7 {rs : List Rn} (h : rs.length ≤ 90000) : good 7 (showD rs) = true := by
  have h1 := good_rs 3 (rs := rs) (by omega)
  have h2 := good_ints 4 (w := endsR 0 rs) (by rw [endsR_len]; omega)
  unfold showD
  generalize rs.map rD = A at *
  generalize (endsR 0 rs).map D.int = B at *
  exact good_lst (by simp) fun x hx => by
    simp only [List.mem_cons, List.not_mem_nil, or_false] at hx
    rcases hx with rfl | rfl | rfl | rfl | rfl | rfl
    · exact h1
    · rfl
    · rfl
    · rfl
    · exact h2
    · rfl
section
variable {k : Nat} {ns : List Int} {a b : List Rn}
theorem case_ok (hb : Bx k ns) (hk : k < 1000000) (la : a.length ≤ 12) (lb : b.length ≤ 12) (pa : ∀ r ∈ a, 0 < r.2) (pb : ∀ r ∈ b, 0 < r.2) : ∃ ns', f_law_case_right ns [.tup (a.map rD), .tup (b.map rD)] = some (.bl true, ns') ∧ Bx (k + 2) ns' := by
  obtain ⟨r, ns1, e1, r0, r1, hb1⟩ := take_ok hb (n := (a.length : Int) + 1) (by omega) (by omega) (by omega)
  obtain ⟨x, ns2, e2, hx, hb2⟩ := of_ok (xs := stranges.map pD) hb1 (by simp [stranges]) (by simp [stranges]) (by omega)
  obtain ⟨p, hp, rfl⟩ := List.mem_map.1 hx
  obtain ⟨j, rfl⟩ : ∃ j : Nat, r = (j : Nat) := ⟨r.toNat, by omega⟩
  have hj : j ≤ a.length := by omega
  refine ⟨ns2, ?_, hb2⟩
  have la' := joinR_len a
  have lb' := joinR_len b
  have nest := case_nest (ns := ns) la lb pa pb
  have sh1 := shown_ok (rs := joinR a) (by omega)
  obtain ⟨q, qe, _⟩ := eq_rows (joinR a) (joinR b)
  obtain ⟨q1, qe1, qt⟩ := eq_rows (joinR a) (joinR a)
  obtain rfl := qt rfl
  have x1 := eqX_of qe1
  have x2 := neT_of qe1
  have x3 := eqX_of qe
  have ir := isruns_ok (join_alt pa) (by omega)
  have pr1 := p_runs (joinR a)
  have pr2 := p_runs (joinR b)
  have ad := tadd_ok (joinR_pos pa) (joinR_pos pb) (by omega)
  rw [join_app pa pb] at ad
  have lab := joinR_len (a ++ b)
  rw [List.length_append] at lab
  have sh2 := shown_ok (rs := joinR (a ++ b)) (by omega)
  have du2 := due_ok (rs := a ++ b) (by rw [List.length_append]; omega)
  have ra := rows_add a b (by omega)
  have sw := swapped_ok (rs := joinR a) (by omega) (joinR_pos pa)
  rw [join_swp pa] at sw
  have lsw := joinR_len (a.map swp)
  rw [List.length_map] at lsw
  have sh3 := shown_ok (rs := joinR (a.map swp)) (by omega)
  have du3 := due_ok (rs := a.map swp) (by rw [List.length_map]; omega)
  have sw2 := swapped_ok (rs := joinR (a.map swp)) (by omega) (joinR_pos (pos_swp pa))
  rw [join_swp2 pa] at sw2
  have bk := backR_ok (join_alt pa) (by omega)
  have pr3 := p_runs (joinR a).reverse
  have rv : revD (.tup ((joinR a).map rD)) = some (.tup ((joinR a).reverse.map rD)) := by
    show some (D.tup _) = _; rw [← List.map_reverse]
  have jb := joinL_ok (x := .tup (b.map rD)) (rs := b) rfl (by omega)
  have at0 : atD (showD (joinR a)) (.int 0) = some (.tup ((joinR a).map rD)) := rfl
  have g1 := good_show7 (rs := joinR a) (by omega)
  have g2 := good_show7 (rs := joinR (a ++ b)) (by omega)
  have g3 := good_show7 (rs := joinR (a.map swp)) (by omega)
  have g4 := good_rs 4 (rs := joinR a) (by omega)
  have g5 := good_rs 4 (rs := joinR b) (by omega)
  have g6 := good_rs 4 (rs := (joinR a).reverse) (by rw [List.length_reverse]; omega)
  have tu := turned_ok (b := .b ns) (B := .tup (b.map rD)) (d := showD (joinR a)) (a := a) (c5 := .d (TD (joinR a))) (c6 := .d (TD (joinR a))) (c7 := .d (TD (joinR b))) (by omega)
  obtain ⟨k1, k2⟩ := odd_kept (p := p) (by omega) hj pa (strange_bad p hp)
  have lo := lists_odd (ps := oddP a j p) (by rw [odd_len]; omega)
  have ol : lenD [.tup (a.map rD)] = some (.int (a.length : Nat)) := by rw [lenD, List.length_map]
  have o1 : cutD (.tup (a.map rD)) none (some (j : Nat)) = some (.tup ((a.take j).map rD)) := by
    show some (D.tup (cutL (a.map rD) none (some ((j : Nat) : Int)))) = _
    rw [cutL_to, List.map_take]
  have o2 : cutD (.tup (a.map rD)) (some (j : Nat)) none = some (.tup ((a.drop j).map rD)) := by
    show some (D.tup (cutL (a.map rD) (some ((j : Nat) : Int)) none)) = _
    rw [cutL_at, List.map_drop]
  have tl : (a.take j).length ≤ 12 := by rw [List.length_take]; omega
  have dl : (a.drop j).length ≤ 12 := by rw [List.length_drop]; omega
  have o3 : addD (.tup ((a.take j).map rD)) (.tup [pD p]) = some (.tup ((a.take j).map rD ++ [pD p])) := tup_add _ _ (by simp; omega)
  have o4 : addD (.tup ((a.take j).map rD ++ [pD p])) (.tup ((a.drop j).map rD)) = some (.tup ((a.take j).map rD ++ [pD p] ++ (a.drop j).map rD)) := tup_add _ _ (by simp; omega)
  have o5 : addD (.tup ((a.take j).map rD ++ [pD p] ++ (a.drop j).map rD)) (.tup [.tup [.str "a", .int 0]]) = some (.tup ((oddP a j p).map pD)) := by
    rw [tup_add _ _ (by simp; omega), odd_rows]
    simp only [List.append_assoc, List.cons_append, List.nil_append]; rfl
  have hs1 := same_ok 8 (.lst [showD (joinR a), showD (joinR a), .bl true, .bl false, .bl true, showD (joinR (a ++ b)), .bl q, showD (joinR (a.map swp))]) (good_lst (n := 7) (by simp) fun y hy => by
    simp only [List.mem_cons, List.not_mem_nil, or_false] at hy
    rcases hy with rfl | rfl | rfl | rfl | rfl | rfl | rfl | rfl
    · exact g1
    · exact g1
    · rfl
    · rfl
    · rfl
    · exact g2
    · rfl
    · exact g3)
  have hs2 := same_ok 8 (.lst [.tup ((joinR a).reverse.map rD), .bl true, .tup ((joinR a).map rD), .tup ((joinR b).map rD)]) (good_lst (n := 7) (by simp) fun y hy => by
    simp only [List.mem_cons, List.not_mem_nil, or_false] at hy
    rcases hy with rfl | rfl | rfl | rfl
    · exact g6
    · rfl
    · exact g4
    · exact g5)
  have hs3 := same_ok 8 (.lst [.lst [.int (j : Nat), .bl true, .bl true], .lst [.int (j : Nat), .bl true, .bl true]]) rfl
  have en : [D.tup [.str "a", .int 0], .tup [.str "b", .int (-1)], .tup [.str "c", .int 1], .tup [.str "aa", .int 2], .tup [.str "B", .int 3], .tup [.str "", .int 1]] = stranges.map pD := rfl
  rw [show ((a.length : Nat) : Int) + 1 = ((a.length : Nat) : Int) + 1 from rfl] at e1
  generalize (oddP a j p).map pL = OL at *
  generalize (oddP a j p).map pD = OD at *
  generalize (a.take j).map rD ++ [pD p] ++ (a.drop j).map rD = O3 at *
  generalize (a.take j).map rD ++ [pD p] = O2 at *
  generalize (a.take j).map rD = O1 at *
  generalize (a.drop j).map rD = O0 at *
  generalize pD p = pp at *
  generalize showD (joinR a) = s1 at *
  generalize showD (joinR (a ++ b)) = s2 at *
  generalize showD (joinR (a.map swp)) = s3 at *
  generalize (joinR a).reverse.map rD = JR at *
  generalize (joinR a).map rD = JA at *
  generalize (joinR b).map rD = JB at *
  generalize TD (joinR a).reverse = T4 at *
  generalize TD (joinR (a ++ b)) = T3 at *
  generalize TD (joinR (a.map swp)) = T5 at *
  generalize TD (joinR a) = T1 at *
  generalize TD (joinR b) = T2 at *
  generalize (a.map swp).map rD = SW at *
  generalize (a ++ b).map rD = AB at *
  generalize a.map rD = A at *
  generalize b.map rD = B at *
  refine ev_runB [.b ns, .d (.tup A), .d (.tup B), .no, .no, .no, .no, .no, .no, .no, .no, .no, .no, .no, .no, .no, .no] ⟨rg7 ns2 (.tup A) (.tup B) s1 T1 T2 (.d (.tup SW)) (.d (.lst [.tup JR, .bl true, .tup JA, .tup JB])) (.d (.tup JA)) (.d (.tup JB)) (.d (.lst [s1, s1, .bl true, .bl false, .bl true, s2, .bl q, s3])) (.d (.int j)) (.d pp) (.d (.tup OD)), ?_, rfl⟩
  unfold m_law_case_right
  refine ev_seqN nest rfl ?_
  refine ev_seqN (ρ1 := rg7 ns (.tup A) (.tup B) s1 T1 T2 (.d (.tup SW)) .no .no .no .no .no .no .no) (Eq.trans (ev_asg (x := .tup SW) (ev_opN (ev_consA (ev_frz tu) ev_nilA) rfl rfl)) rfl) rfl ?_
  refine ev_seqN (ρ1 := rg7 ns (.tup A) (.tup B) s1 T1 T2 (.d (.tup SW)) (.d (.lst [s1, s1, .bl true, .bl false, .bl true])) .no .no .no .no .no .no) (Eq.trans (ev_asg (ρ1 := rg7 ns (.tup A) (.tup B) s1 T1 T2 (.d (.tup SW)) .no .no .no .no .no .no .no) (x := .lst [s1, s1, .bl true, .bl false, .bl true]) (by unfold rg7; array_get_dec)) rfl) rfl ?_
  refine ev_seqN (ρ1 := rg7 ns (.tup A) (.tup B) s1 T1 T2 (.d (.tup SW)) (.d (.lst [s1, s1, .bl true, .bl false, .bl true, s2, .bl q, s3])) .no .no .no .no .no .no) (Eq.trans (ev_asg (ρ1 := rg7 ns (.tup A) (.tup B) s1 T1 T2 (.d (.tup SW)) (.d (.lst [s1, s1, .bl true, .bl false, .bl true])) .no .no .no .no .no .no) (x := .lst [s1, s1, .bl true, .bl false, .bl true, s2, .bl q, s3]) (ev_op2 (ρ2 := rg7 ns (.tup A) (.tup B) s1 T1 T2 (.d (.tup SW)) (.d (.lst [s1, s1, .bl true, .bl false, .bl true])) .no .no .no .no .no .no) (x := .lst [s1, s1, .bl true, .bl false, .bl true]) (y := .lst [s2, .bl q, s3]) (ev_name rfl) (show _ = R.ok (.d (.lst [s2, .bl q, s3])) _ by unfold rg7; array_get_dec) rfl rfl (dv_addL (by simp)))) rfl) rfl ?_
  refine ev_seqN (ρ1 := rg7 ns (.tup A) (.tup B) s1 T1 T2 (.d (.tup SW)) (.d (.lst [s1, s1, .bl true, .bl false, .bl true, s2, .bl q, s3])) (.d (.tup JA)) (.d (.tup JB)) .no .no .no .no) (Eq.trans (ev_par (ms := [.d (.tup JA), .d (.tup JB)]) (ev_consMd (ev_op2 (ev_name rfl) ev_const rfl rfl at0) (ev_consMd (ev_call (ev_consA (ev_name rfl) ev_nilA) rfl jb rfl) ev_nilM)) rfl) rfl) rfl ?_
  refine ev_seqN (ρ1 := rg7 ns (.tup A) (.tup B) s1 T1 T2 (.d (.tup SW)) (.d (.lst [s1, s1, .bl true, .bl false, .bl true, s2, .bl q, s3])) (.d (.tup JA)) (.d (.tup JB)) (.d (.lst [s1, s1, .bl true, .bl false, .bl true, s2, .bl q, s3])) .no .no .no) (Eq.trans (ev_asg (ρ1 := rg7 ns (.tup A) (.tup B) s1 T1 T2 (.d (.tup SW)) (.d (.lst [s1, s1, .bl true, .bl false, .bl true, s2, .bl q, s3])) (.d (.tup JA)) (.d (.tup JB)) .no .no .no .no) (x := .lst [s1, s1, .bl true, .bl false, .bl true, s2, .bl q, s3]) (by unfold rg7; array_get_dec)) rfl) rfl ?_
  generalize hW : D.lst [s1, s1, .bl true, .bl false, .bl true, s2, .bl q, s3] = W1 at *
  refine ev_seqN (ρ1 := rg7 ns (.tup A) (.tup B) s1 T1 T2 (.d (.tup SW)) (.d W1) (.d (.tup JA)) (.d (.tup JB)) (.d W1) .no .no .no) (ev_ifS2 (b := !true) (ρ1 := rg7 ns (.tup A) (.tup B) s1 T1 T2 (.d (.tup SW)) (.d W1) (.d (.tup JA)) (.d (.tup JB)) (.d W1) .no .no .no) (ev_notT (ev_val (ev_call (vs := [.d W1, .d W1]) (ev_consA (ev_name rfl) (ev_consA (ev_name rfl) ev_nilA)) rfl hs1 rfl))) rfl ev_next) rfl ?_
  refine ev_seqN (ρ1 := rg7 ns (.tup A) (.tup B) s1 T1 T2 (.d (.tup SW)) (.d (.lst [.tup JR, .bl true, .tup JA, .tup JB])) (.d (.tup JA)) (.d (.tup JB)) (.d W1) .no .no .no) (Eq.trans (ev_asg (ρ1 := rg7 ns (.tup A) (.tup B) s1 T1 T2 (.d (.tup SW)) (.d W1) (.d (.tup JA)) (.d (.tup JB)) (.d W1) .no .no .no) (x := .lst [.tup JR, .bl true, .tup JA, .tup JB]) (by unfold rg7; array_get_dec)) rfl) rfl ?_
  refine ev_seqN (ρ1 := rg7 ns (.tup A) (.tup B) s1 T1 T2 (.d (.tup SW)) (.d (.lst [.tup JR, .bl true, .tup JA, .tup JB])) (.d (.tup JA)) (.d (.tup JB)) (.d W1) .no .no .no) (ev_ifS2 (b := !true) (ρ1 := rg7 ns (.tup A) (.tup B) s1 T1 T2 (.d (.tup SW)) (.d (.lst [.tup JR, .bl true, .tup JA, .tup JB])) (.d (.tup JA)) (.d (.tup JB)) (.d W1) .no .no .no) (ev_notT (ev_val (ev_call (vs := [.d (.lst [.tup JR, .bl true, .tup JA, .tup JB]), .d (.lst [.tup JR, .bl true, .tup JA, .tup JB])]) (ev_consA (ev_name rfl) (ev_consA (ρ1 := rg7 ns (.tup A) (.tup B) s1 T1 T2 (.d (.tup SW)) (.d (.lst [.tup JR, .bl true, .tup JA, .tup JB])) (.d (.tup JA)) (.d (.tup JB)) (.d W1) .no .no .no) (ρ2 := rg7 ns (.tup A) (.tup B) s1 T1 T2 (.d (.tup SW)) (.d (.lst [.tup JR, .bl true, .tup JA, .tup JB])) (.d (.tup JA)) (.d (.tup JB)) (.d W1) .no .no .no) (by unfold rg7; array_get_dec) ev_nilA)) rfl hs2 rfl))) rfl ev_next) rfl ?_
  generalize D.lst [.tup JR, .bl true, .tup JA, .tup JB] = W2 at *
  refine ev_seqN (ρ1 := rg7 ns1 (.tup A) (.tup B) s1 T1 T2 (.d (.tup SW)) (.d W2) (.d (.tup JA)) (.d (.tup JB)) (.d W1) (.d (.int j)) .no .no) (Eq.trans (ev_asg (x := .int j) (ev_callB (i := 0) (ws := [.d (.int ((a.length : Int) + 1))]) (ev_consA (ev_nameB rfl) (ev_consA (ev_op2 (ev_opN (ev_consA (ev_name rfl) ev_nilA) rfl ol) ev_const rfl rfl rfl) ev_nilA)) rfl rfl e1 rfl rfl)) rfl) rfl ?_
  refine ev_seqN (ρ1 := rg7 ns2 (.tup A) (.tup B) s1 T1 T2 (.d (.tup SW)) (.d W2) (.d (.tup JA)) (.d (.tup JB)) (.d W1) (.d (.int j)) (.d pp) .no) (Eq.trans (ev_asg (x := pp) (ev_callB (i := 0) (ws := [.d (.lst (stranges.map pD))]) (ev_consA (ev_nameB rfl) (ev_consA rfl ev_nilA)) rfl rfl e2 rfl rfl)) rfl) rfl ?_
  refine ev_seqN (ρ1 := rg7 ns2 (.tup A) (.tup B) s1 T1 T2 (.d (.tup SW)) (.d W2) (.d (.tup JA)) (.d (.tup JB)) (.d W1) (.d (.int j)) (.d pp) (.d (.tup OD))) (Eq.trans (ev_asg (x := .tup OD) (ev_op2 (ev_op2 (ev_op2 (ev_sl (ev_name rfl) ev_noPart (ev_aPart (ev_name rfl)) rfl o1) (ev_tup (vs := [.d pp]) (ev_consA (ev_name rfl) ev_nilA) rfl (by simp)) rfl rfl o3) (ev_sl (ev_name rfl) (ev_aPart (ev_name rfl)) ev_noPart rfl o2) rfl rfl o4) rfl rfl rfl o5)) rfl) rfl ?_
  exact ev_ret (ev_call (vs := [.d (.lst [.lst [.int (j : Nat), .bl true, .bl true], .lst [.int (j : Nat), .bl true, .bl true]]), .d (.lst [.lst [.int (j : Nat), .bl true, .bl true], .lst [.int (j : Nat), .bl true, .bl true]])])
    (ev_consA (ev_frz (ev_lst (vs := [.d (.lst [.int (j : Nat), .bl true, .bl true]), .d (.lst [.int (j : Nat), .bl true, .bl true])]) (ev_consA (ev_call (ev_consA (ev_name rfl) ev_nilA) rfl k1 rfl) (ev_consA (ev_call (ev_consA (ev_call (ev_consA (ev_name rfl) ev_nilA) rfl lo rfl) ev_nilA) rfl k2 rfl) ev_nilA)) rfl (by simp)))
      (ev_consA (ev_op2 (ev_frz (ev_lst (vs := [.d (.lst [.int (j : Nat), .bl true, .bl true])]) (ev_consA (ev_frz (ev_lst (vs := [.d (.int (j : Nat)), .d (.bl true), .d (.bl true)]) (ev_consA (ev_name rfl) (ev_consA ev_const (ev_consA ev_const ev_nilA))) rfl (by simp))) ev_nilA) rfl (by simp))) ev_const rfl rfl rfl) ev_nilA)) rfl hs3 rfl)
end
end
section
/-! ### nine rounds -/
def P07 (cs : List Cell) : Prop := ∃ c1 c2, cs = [c1, c2] ∧ isB c1 = false ∧ isB c2 = false
theorem high_ok {x : D} (h : x ∈ [D.int 2, .int 9, .int (10 ^ 28)]) : ∃ i : Int, x = .int i ∧ 0 < i := by
  simp only [List.mem_cons, List.not_mem_nil, or_false] at h
  rcases h with rfl | rfl | rfl
  · exact ⟨2, rfl, by decide⟩
  · exact ⟨9, rfl, by decide⟩
  · exact ⟨10 ^ 28, rfl, by decide⟩
theorem turn_ok {k : Nat} {ns : List Int} {cs : List Cell} (d : D) (hP : P07 cs) (hb : Bx k ns) (hk : k < 700000) : ∃ ns' cs', turnS (nameG 1) m_law_right_b1 d (.b ns :: cs) = .nx (.b ns' :: cs') ∧ P07 cs' ∧ Bx (k + 1000) ns' := by
  obtain ⟨c1, c2, rfl, h1, h2⟩ := hP
  obtain ⟨x, ns1, e1, hx, hb1⟩ := of_ok (xs := [.int 2, .int 9, .int (10 ^ 28)]) hb (by simp) (by simp) (by omega)
  obtain ⟨h, rfl, h0⟩ := high_ok hx
  obtain ⟨a, ns2, e2, la, pa, hb2⟩ := bits_ok (m := 12) hb1 h0 (by omega) (by omega)
  obtain ⟨b, ns3, e3, lb, pb, hb3⟩ := bits_ok (m := 12) hb2 h0 (by omega) (by omega)
  obtain ⟨ns4, e4, hb4⟩ := case_ok hb3 (by omega) la lb pa pb
  have pw : powD (.int 10) (.int 28) = some (.int (10 ^ 28)) := pow_ten 28 (by omega)
  generalize (10 ^ 28 : Int) = big at *
  generalize D.tup (a.map rD) = A at *
  generalize D.tup (b.map rD) = B at *
  refine ⟨ns4, [.d d, .d (.int h)], ?_, ⟨_, _, rfl, rfl, rfl⟩, hb4.mono (by omega)⟩
  refine ev_turn (ρ1 := [.b ns, .d d, c2]) rfl ?_
  have o1 : onlyB 0 [.b ns, .d d, c2] = true := by
    show (true && (true && (!isB c2 && true))) = true
    rw [h2]; rfl
  have s1 : asgS 2 (callBE f_law_of (consA (nameE 0) (consA (frzE (lstF (consA (constE (.int 2)) (consA (constE (.int 9)) (consA (op2E powD (constE (.int 10)) (constE (.int 28))) nilA))))) nilA))) [.b ns, .d d, c2] = .nx [.b ns1, .d d, .d (.int h)] := by
    refine Eq.trans (ev_asg (x := .int h) (ρ1 := [.b ns1, .d d, c2]) ?_) rfl
    exact ev_callB (i := 0) (ws := [.d (.lst [.int 2, .int 9, .int big])]) (ns := ns) (ns' := ns1) (ρ1 := [.b ns, .d d, c2]) (ev_consA (ev_nameB rfl) (ev_consA (ev_frz (ev_lst (vs := [.d (.int 2), .d (.int 9), .d (.int big)]) (ev_consA ev_const (ev_consA ev_const (ev_consA (ev_op2 ev_const ev_const rfl rfl pw) ev_nilA))) rfl (by simp))) ev_nilA)) rfl rfl e1 o1 rfl
  unfold m_law_right_b1
  refine ev_seqN s1 rfl ?_
  refine ev_ifS2 (b := !true) (ρ1 := [.b ns4, .d d, .d (.int h)]) (ev_notT (ev_val ?_)) rfl ev_next
  exact ev_callB (i := 0) (ws := [.d A, .d B]) (ns := ns3) (ns' := ns4) (ρ1 := [.b ns3, .d d, .d (.int h)]) (ev_consA (ev_nameB rfl) (ev_consA (ev_callB (i := 0) (ws := [.d (.int 12), .d (.int h)]) (ns := ns1) (ns' := ns2) (ρ1 := [.b ns1, .d d, .d (.int h)]) (ρ2 := [.b ns2, .d d, .d (.int h)]) (ev_consA (ev_nameB rfl) (ev_consA ev_const (ev_consA (ev_name rfl) ev_nilA))) rfl rfl e2 rfl rfl)
    (ev_consA (ev_callB (i := 0) (ws := [.d (.int 12), .d (.int h)]) (ns := ns2) (ns' := ns3) (ρ1 := [.b ns2, .d d, .d (.int h)]) (ρ2 := [.b ns3, .d d, .d (.int h)]) (ev_consA (ev_nameB rfl) (ev_consA ev_const (ev_consA (ev_name rfl) ev_nilA))) rfl rfl e3 rfl rfl) ev_nilA))) rfl rfl e4 rfl rfl
theorem right_ok {ns : List Int} (hb : Bx 0 ns) : ∃ ns', f_law_right ns [] = some (.bl true, ns') := by
  have go : ∀ (ds : List D) (k : Nat) (ns : List Int) (cs : List Cell), P07 cs → Bx k ns → k + 1000 * ds.length < 600000 → ∃ ns' cs', loopS (turnS (nameG 1) m_law_right_b1) ds (.b ns :: cs) = .nx (.b ns' :: cs') := fun ds => by
    induction ds with
    | nil => exact fun k ns cs _ _ _ => ⟨ns, cs, rfl⟩
    | cons d ds ih =>
      intro k ns cs hP hb hk
      rw [List.length_cons, Nat.mul_succ] at hk
      obtain ⟨ns1, cs1, e, hP1, hb1⟩ := turn_ok d hP hb (by omega)
      obtain ⟨ns2, cs2, e2⟩ := ih (k + 1000) ns1 cs1 hP1 hb1 (by omega)
      exact ⟨ns2, cs2, by rw [loopS, e]; exact e2⟩
  obtain ⟨ns', cs, e⟩ := go (rng 0 9) 0 ns [.no, .no] ⟨_, _, rfl, rfl, rfl⟩ hb (by rw [rng_len]; decide)
  have el : m_law_right_l1 [.b ns, .no, .no] = .nx (.b ns' :: cs) := by
    unfold m_law_right_l1
    exact ev_for (ds := rng 0 9) (ρ1 := [.b ns, .no, .no]) (ev_rng1 (n := 9) (ev_consA ev_const ev_nilA) (by omega)) e
  refine ⟨ns', ?_⟩
  refine ev_runB [.b ns, .no, .no] ?_
  refine ⟨.b ns' :: cs, ?_, rfl⟩
  unfold m_law_right
  exact ev_seq el (ev_ret ev_const)
end
section
theorem cells_ok {ns : List Int} (h : ns.length ≤ 63) : ∃ ms : List Int, f_law_cells [.scr ns, .int 3] = .ok (.lst (ms.map D.int)) ∧ 1 ≤ ms.length ∧ ms.length ≤ 3 := by
  have e1 : cutL (ns.map D.int) none (some 3) = (ns.take 3).map D.int := by rw [show (3 : Int) = ((3 : Nat) : Int) from rfl, cutL_to, List.map_take]
  have e2 : cutL (ns.map D.int) (some 3) (some 63) = (ns.drop 3).map D.int := by rw [show (3 : Int) = ((3 : Nat) : Int) from rfl, show (63 : Int) = ((63 : Nat) : Int) from rfl, cutL_ft, List.take_of_length_le (by rw [List.length_map]; exact h), List.map_drop]
  by_cases h0 : ns = []
  · subst h0
    exact ⟨[0], by rfl, by decide, by decide⟩
  · by_cases hl : ns.length ≤ 3
    · rw [List.drop_eq_nil_of_le hl, List.map_nil] at e2
      rw [List.take_of_length_le hl] at e1
      refine ⟨ns, ?_, List.length_pos_iff.2 h0, hl⟩
      have e6 : loopS (turnS m_law_cells_g1 m_law_cells_b1) [] [.d (.scr ns), .d (.int 3), .m (ns.map D.int), .no, .no, .no] = .nx _ := rfl
      simp [f_law_cells, m_law_cells, m_law_cells_l1, Lq.runF, Lq.runB, Lq.runL, Lq.boxAt, Lq.startR, Lq.seqS, Lq.nextS, Lq.ifS, Lq.asgS, Lq.asgM, Lq.asgG, Lq.retS, Lq.retF, Lq.dropS, Lq.forS, Lq.putItem, Lq.isMB, Lq.putS1, Lq.parS, Lq.consMd, Lq.consMf', Lq.noErr, Lq.nilM, Lq.setsR, Lq.nameE, Lq.constE, Lq.op1E, Lq.op2E, Lq.opNE, Lq.opNF, Lq.op2F, Lq.lift1, Lq.lift2, Lq.liftN, Lq.res, Lq.resAll, Lq.valT, Lq.notT, Lq.andT, Lq.orT, Lq.andE, Lq.orE, Lq.notE, Lq.ifE, Lq.consA, Lq.nilA, Lq.frzE, Lq.lstF, Lq.tupE, Lq.callE, Lq.callBE, Lq.callL, Lq.callNew, Lq.slotted, Lq.datAll, Lq.appE, Lq.popE, Lq.compF, Lq.yesT, Lq.wipeR, Lq.backR, Lq.plainC, Lq.nameG, Lq.tupG, Lq.consG, Lq.nilG, Lq.seqI, Lq.rngI1, Lq.rngI2, Lq.enumI, Lq.zipI, Lq.isiE, Lq.slE, Lq.aPart, Lq.noPart, Lq.chainE, Lq.strM, Lq.orF, Lq.R.bind, Lq.R.thnO, Lq.raiseS, Lq.raise0S, Lq.tryS, Lq.hNil, Lq.hAs, Lq.goneS, Lq.enumA, Lq.enumK, Lq.ifF, Lq.permA, Lq.permL, Lq.D.noL, Lq.noLs, Lq.isEx, Lq.fldD, Lq.isErrD, Lq.itemsOf, Lq.onlyB, Lq.isB, Lq.D.flat, Lq.starA, Lq.extE, Lq.augS, Lq.ixTE, Lq.mvS, Lq.dfA, Lq.slotD, Lq.propD, Lq.mkE, Lq.mkE0, Lq.callNewN, Lq.isErrND, Lq.callME, Lq.isBD, Lq.addD, Lq.catF, Lq.subD, Lq.mulD, Lq.fdivD, Lq.modD, Lq.powD, Lq.negD, Lq.ltD, Lq.leD, Lq.gtD, Lq.geD, Lq.eqD, Lq.neD, Lq.sameKind, Lq.isD, Lq.isntD, Lq.isNon, Lq.inD, Lq.ninD, Lq.anyEq, Lq.lenD, Lq.atD, Lq.cutD, Lq.revD, Lq.splitD, Lq.joinD, Lq.tupleD, Lq.tupleTD, Lq.listF, Lq.allD, Lq.anyD, Lq.sumD, Lq.absD, Lq.min2D, Lq.max2D, Lq.intD, Lq.strD, Lq.sortedF, Lq.isiB, Lq.tyName, Lq.notObj, Lq.D.items?, Lq.fits, L2.atI, L2.ixN, e1, e2, enumD, e6, h0]
    · obtain ⟨ms', c3, c4, c5, hm, e⟩ := cells_loop (ns := ns) (ns.drop 3) 0 (ns.take 3) .no .no .no (by rw [List.length_take]; omega) (by rw [List.length_drop]; omega)
      refine ⟨ms', ?_, by omega, by omega⟩
      simp only [List.map_drop, List.map_take] at e e1 e2
      simp [f_law_cells, m_law_cells, m_law_cells_l1, Lq.runF, Lq.runB, Lq.runL, Lq.boxAt, Lq.startR, Lq.seqS, Lq.nextS, Lq.ifS, Lq.asgS, Lq.asgM, Lq.asgG, Lq.retS, Lq.retF, Lq.dropS, Lq.forS, Lq.putItem, Lq.isMB, Lq.putS1, Lq.parS, Lq.consMd, Lq.consMf', Lq.noErr, Lq.nilM, Lq.setsR, Lq.nameE, Lq.constE, Lq.op1E, Lq.op2E, Lq.opNE, Lq.opNF, Lq.op2F, Lq.lift1, Lq.lift2, Lq.liftN, Lq.res, Lq.resAll, Lq.valT, Lq.notT, Lq.andT, Lq.orT, Lq.andE, Lq.orE, Lq.notE, Lq.ifE, Lq.consA, Lq.nilA, Lq.frzE, Lq.lstF, Lq.tupE, Lq.callE, Lq.callBE, Lq.callL, Lq.callNew, Lq.slotted, Lq.datAll, Lq.appE, Lq.popE, Lq.compF, Lq.yesT, Lq.wipeR, Lq.backR, Lq.plainC, Lq.nameG, Lq.tupG, Lq.consG, Lq.nilG, Lq.seqI, Lq.rngI1, Lq.rngI2, Lq.enumI, Lq.zipI, Lq.isiE, Lq.slE, Lq.aPart, Lq.noPart, Lq.chainE, Lq.strM, Lq.orF, Lq.R.bind, Lq.R.thnO, Lq.raiseS, Lq.raise0S, Lq.tryS, Lq.hNil, Lq.hAs, Lq.goneS, Lq.enumA, Lq.enumK, Lq.ifF, Lq.permA, Lq.permL, Lq.D.noL, Lq.noLs, Lq.isEx, Lq.fldD, Lq.isErrD, Lq.itemsOf, Lq.onlyB, Lq.isB, Lq.D.flat, Lq.starA, Lq.extE, Lq.augS, Lq.ixTE, Lq.mvS, Lq.dfA, Lq.slotD, Lq.propD, Lq.mkE, Lq.mkE0, Lq.callNewN, Lq.isErrND, Lq.callME, Lq.isBD, Lq.addD, Lq.catF, Lq.subD, Lq.mulD, Lq.fdivD, Lq.modD, Lq.powD, Lq.negD, Lq.ltD, Lq.leD, Lq.gtD, Lq.geD, Lq.eqD, Lq.neD, Lq.sameKind, Lq.isD, Lq.isntD, Lq.isNon, Lq.inD, Lq.ninD, Lq.anyEq, Lq.lenD, Lq.atD, Lq.cutD, Lq.revD, Lq.splitD, Lq.joinD, Lq.tupleD, Lq.tupleTD, Lq.listF, Lq.allD, Lq.anyD, Lq.sumD, Lq.absD, Lq.min2D, Lq.max2D, Lq.intD, Lq.strD, Lq.sortedF, Lq.isiB, Lq.tyName, Lq.notObj, Lq.D.items?, Lq.fits, L2.atI, L2.ixN, e1, e2, enumD, h0, e]
def frameR (ns ms : List Int) : Rho := [.d (.scr ns), .d (.lst (ms.map D.int)), .no]
theorem frame_turn (hr : ∀ ns, Bx 0 ns → ∃ ns', f_law_right ns [] = some (.bl true, ns')) {ns ms : List Int} {k : Nat} {acc : List D} (hk : k < ms.length) (e3 : ms.length ≤ 3) (hf : fits (acc.length + 1) = true) :
    ∃ ρ1, Lq.compTurn (nameG 2) yesT m_law_e1 acc (.int k) (frameR ns ms) = .ok (acc ++ [.bl true]) ρ1 ∧ wipeR ρ1 [2] = frameR ns ms := by
  obtain ⟨b0, b1, eb, hb⟩ := box_ok hk e3
  obtain ⟨ns', er⟩ := hr _ hb
  refine ⟨[.d (.scr ns), .d (.lst (ms.map D.int)), .d (.int k)], ?_, by simp [wipeR, frameR]⟩
  simp [Lq.runF, Lq.runB, Lq.runL, Lq.boxAt, Lq.startR, Lq.seqS, Lq.nextS, Lq.ifS, Lq.asgS, Lq.asgM, Lq.asgG, Lq.retS, Lq.retF, Lq.dropS, Lq.forS, Lq.loopS, Lq.turnS, Lq.putItem, Lq.isMB, Lq.putS1, Lq.parS, Lq.consMd, Lq.consMf', Lq.noErr, Lq.nilM, Lq.setsR, Lq.nameE, Lq.constE, Lq.op1E, Lq.op2E, Lq.opNE, Lq.opNF, Lq.op2F, Lq.lift1, Lq.lift2, Lq.liftN, Lq.res, Lq.resAll, Lq.valT, Lq.notT, Lq.andT, Lq.orT, Lq.andE, Lq.orE, Lq.notE, Lq.ifE, Lq.consA, Lq.nilA, Lq.frzE, Lq.lstF, Lq.tupE, Lq.callE, Lq.callBE, Lq.callL, Lq.callNew, Lq.slotted, Lq.datAll, Lq.appE, Lq.popE, Lq.compF, Lq.compLoop, Lq.compTurn, Lq.yesT, Lq.wipeR, Lq.backR, Lq.plainC, Lq.nameG, Lq.tupG, Lq.consG, Lq.nilG, Lq.seqI, Lq.rngI1, Lq.rngI2, Lq.enumI, Lq.zipI, Lq.isiE, Lq.slE, Lq.aPart, Lq.noPart, Lq.chainE, Lq.strM, Lq.orF, Lq.R.bind, Lq.R.thnO, Lq.raiseS, Lq.raise0S, Lq.tryS, Lq.hNil, Lq.hAs, Lq.goneS, Lq.enumA, Lq.enumK, Lq.ifF, Lq.permA, Lq.permL, Lq.D.noL, Lq.noLs, Lq.isEx, Lq.fldD, Lq.isErrD, Lq.itemsOf, Lq.onlyB, Lq.isB, Lq.D.flat, Lq.starA, Lq.extE, Lq.augS, Lq.ixTE, Lq.mvS, Lq.dfA, Lq.slotD, Lq.propD, Lq.mkE, Lq.mkE0, Lq.callNewN, Lq.isErrND, Lq.callME, frameR, m_law_e1, eb, er, allOf, D.int?, hf]
theorem frame_all (hr : ∀ ns, Bx 0 ns → ∃ ns', f_law_right ns [] = some (.bl true, ns')) {ns ms : List Int} (e3 : ms.length ≤ 3) :
    Lq.compLoop [2] (nameG 2) yesT m_law_e1 [] (rng 0 ms.length) (frameR ns ms) = .ok (List.replicate ms.length (.bl true)) (frameR ns ms) := by
  have hl : (rng 0 ms.length).length = ms.length := by unfold rng; rw [List.length_map, List.length_range]
  obtain ⟨ρ', ec, hi⟩ := comp_inv (vs := [2]) (gd := nameG 2) (ft := yesT) (fe := m_law_e1) (fun _ ρ => ρ = frameR ns ms) (D.bl true) 3 (rng 0 ms.length) [] 0 (frameR ns ms) rfl (fun d hd k ρ acc hi _ hf => by
    subst hi
    obtain ⟨k, hk, rfl⟩ := rng_mem hd
    exact frame_turn hr hk e3 hf) (by rw [hl, List.length_nil]; omega) (by rw [hl]; omega)
  rw [List.nil_append, rng_true, hi] at ec
  exact ec
theorem frame_rng {ns ms : List Int} (e3 : ms.length ≤ 3) : rngI1 (consA (opNE lenD (consA (nameE 1) nilA)) nilA) (frameR ns ms) = .ok (rng 0 ms.length) (frameR ns ms) := by
  have er : okR (ms.length : Int) = true := okR_small (by omega) (by omega)
  simp [frameR, Lq.rngI1, Lq.consA, Lq.nilA, Lq.opNE, Lq.nameE, Lq.R.bind, Lq.liftN, Lq.resAll, Lq.res, Lq.lenD, er]
theorem frame_comp (hr : ∀ ns, Bx 0 ns → ∃ ns', f_law_right ns [] = some (.bl true, ns')) {ns ms : List Int} (e3 : ms.length ≤ 3) :
    Lq.compF [2] (rngI1 (consA (opNE lenD (consA (nameE 1) nilA)) nilA)) (nameG 2) yesT m_law_e1 (frameR ns ms) = .ok (List.replicate ms.length (.bl true)) (frameR ns ms) := by
  have ew : wipeR (frameR ns ms) [2] = frameR ns ms := rfl
  have ep : ([2] : List Nat).all (fun v => plainC ((frameR ns ms).getD v .no)) = true := rfl
  have eb : backR (frameR ns ms) (frameR ns ms) [2] = frameR ns ms := rfl
  simp only [Lq.compF, frame_rng e3, Lq.R.bind, ep, ew, frame_all hr e3, eb, if_true]
end
section
theorem hand_ok : f_law_by_hand_right [] = .ok (.bl true) := isT_of (by decide +kernel)
theorem law_true (ns : List Int) (h : ns.length ≤ 63) : f_law [.scr ns] = .ok (.bl true) := by
  obtain ⟨ms, e1, e2, e3⟩ := cells_ok h
  have e5 : m_law_c1 (frameR ns ms) = .ok (List.replicate ms.length (.bl true)) (frameR ns ms) := frame_comp (fun _ hb => right_ok hb) (ns := ns) e3
  have ea := all_true ms.length
  have hh := hand_ok
  unfold frameR at e5
  unfold f_law m_law
  generalize f_law_by_hand_right = H at hh
  refine ev_runF [.d (.scr ns), .no, .no] ?_
  apply Exists.intro
  array_mem_dec
end
end Lw
open PySem PySem.W PyProof.Rows
set_option maxHeartbeats 0 in
theorem PySem.Challenge.cw_heirturns_k07_turns_by_their_runs_holds : PySem.Challenge.rw_heirturns_k07_turns_by_their_runs.Holds := by
  w_on; o_law; k_head; (case hw => w_witness2)
  k_fill
  refine L2.walk_of (l := PySem.Challenge.rw_heirturns_k07_turns_by_their_runs) (n := 63) (k := 16) (x := "_law_script") (CX := fun w => L2.CX (PySem.Challenge.rw_heirturns_k07_turns_by_their_runs).prog w) (sp := fun w => Lq.spA _ 1 Lw.f_law) rfl (by decide) rfl ⟨rfl, by decide, by decide⟩ (fun w h Y => PySem.W.kIn_of Y) ?F (fun _ H a ns hl _ hS T h0 => ⟨H, [.scr ns], ⟨Lq.Same.refl _, fun h => by rw [h0] at h; cases h⟩, ⟨_, _, rfl, ⟨a, rfl, hS⟩, rfl⟩, rfl, by rw [Lw.law_true ns hl]; exact fun _ _ _ _ r => r⟩) (fun _ _ _ _ _ z => Lq.cx_no z)
  case F =>
    intro w mg fa h KX G hmg
    refine' Lw.fin (Lw.mkTx KX G ?gT ?mkT ?inT ?isT ?kpT ?pgT ?icT ?poT ?saT ?sa0T ?sg0T ?st0T ?sy0T ?sx0T ?sa1T ?sg1T ?st1T ?sy1T ?sx1T ?lkT ?cdT ?kfT ?ldT ?l0T ?i1T ?i2T ?i3T ?i4T ?i5T ?i6T ?i7T ?i8T ?i0T ?iaT ?ibT ?icT2 ?idT ?i9T ?a_is_number ?l_is_number ?c_is_number ?k_is_number ?a_tupled ?l_tupled ?c_tupled ?k_tupled ?a_number_in ?l_number_in ?c_number_in ?k_number_in ?a_run_text ?l_run_text ?c_run_text ?k_run_text ?a_runs_text ?l_runs_text ?c_runs_text ?k_runs_text ?a_run_in ?l_run_in ?c_run_in ?k_run_in ?a_runs_from ?l_runs_from ?c_runs_from ?k_runs_from ?a_joined_runs ?l_joined_runs ?c_joined_runs ?k_joined_runs ?a_ends_of ?l_ends_of ?c_ends_of ?k_ends_of ?a_is_run ?l_is_run ?c_is_run ?k_is_run ?a_is_runs ?l_is_runs ?c_is_runs ?k_is_runs ?pa_T_runs ?pg_T_runs ?pt_T_runs ?pr_T_runs ?l_T_runs ?c_T_runs ?k_T_runs ?a_backwards ?l_backwards ?c_backwards ?k_backwards ?a_swapped ?l_swapped ?c_swapped ?k_swapped ?a_law_box ?l_law_box ?c_law_box ?k_law_box ?a_law_take ?l_law_take ?c_law_take ?k_law_take ?a_law_cells ?l_law_cells ?c_law_cells ?k_law_cells ?a_law_of ?l_law_of ?c_law_of ?k_law_of ?a_law_same ?l_law_same ?c_law_same ?k_law_same ?a_law_lists ?l_law_lists ?c_law_lists ?k_law_lists ?a_law_much ?l_law_much ?c_law_much ?k_law_much ?a_law_bits ?l_law_bits ?c_law_bits ?k_law_bits ?a_law_joined ?l_law_joined ?c_law_joined ?k_law_joined ?pa_T_size ?pg_T_size ?pt_T_size ?pr_T_size ?l_T_size ?c_T_size ?k_T_size ?pa_T_hers ?pg_T_hers ?pt_T_hers ?pr_T_hers ?l_T_hers ?c_T_hers ?k_T_hers ?pa_T_his ?pg_T_his ?pt_T_his ?pr_T_his ?l_T_his ?c_T_his ?k_T_his ?pa_T_ends ?pg_T_ends ?pt_T_ends ?pr_T_ends ?l_T_ends ?c_T_ends ?k_T_ends ?ma_T_len ?mb_T_len ?mc_T_len ?l_T_len ?c_T_len ?k_T_len ?a_law_shown ?l_law_shown ?c_law_shown ?k_law_shown ?a_law_kept ?l_law_kept ?c_law_kept ?k_law_kept ?a_law_due ?l_law_due ?c_law_due ?k_law_due ?a_law_kinds_right ?l_law_kinds_right ?c_law_kinds_right ?k_law_kinds_right ?ma_T_eq ?mb_T_eq ?mc_T_eq ?l_T_eq ?c_T_eq ?k_T_eq ?ma_T_add ?mb_T_add ?mc_T_add ?l_T_add ?c_T_add ?k_T_add ?a_law_by_hand_right ?l_law_by_hand_right ?c_law_by_hand_right ?k_law_by_hand_right ?a_law_case_right ?l_law_case_right ?c_law_case_right ?k_law_case_right ?a_law_right ?l_law_right ?c_law_right ?k_law_right ?a_law ?l_law ?c_law ?k_law ?eg_BadRun ?el_BadRun ?esa_BadRun ?eex_BadRun ?ety_BadRun ?ek_BadRun ?ei_BadRun ?eti_BadRun ?eno_BadRun ?ega_BadRun ?egg_BadRun ?ehd_BadRun ?eli_BadRun ?eci_BadRun ?eki_BadRun ?eg_BadText ?el_BadText ?esa_BadText ?eex_BadText ?ety_BadText ?ek_BadText ?ei_BadText ?eti_BadText ?eno_BadText ?ega_BadText ?egg_BadText ?ehd_BadText ?eli_BadText ?eci_BadText ?eki_BadText ?eg_NoPlace ?el_NoPlace ?esa_NoPlace ?eex_NoPlace ?ety_NoPlace ?ek_NoPlace ?ei_NoPlace ?eti_NoPlace ?eno_NoPlace ?ega_NoPlace ?egg_NoPlace ?ehd_NoPlace ?eli_NoPlace ?eci_NoPlace ?eki_NoPlace ?ka_BadRun ?km_BadRun ?ka_BadText ?km_BadText ?ka_NoPlace ?km_NoPlace ?kn ?kt ?gH ?hHd ?hHt ?hHe ?su_H_H ?ki_BadRun_ValueError ?ki_BadText_ValueError ?ki_NoPlace_ValueError ?su_BadRun_H ?su_BadText_H ?su_NoPlace_H ?su_BadRun_BadRun ?su_BadText_BadRun ?su_NoPlace_BadRun ?z_ValueError ?z_abs ?z_all ?z_bool ?z_enumerate ?z_int ?z_isinstance ?z_len ?z_list ?z_range ?z_str ?z_sum ?z_tuple ?z_zip ?q_DIGITS ?q_BLANK ?q_BETWEEN ?q_NOTHING ?q_PAIR_texts ?q_HEIRS_texts ?lt_HEIRS_texts ?q_PAIR_turns ?q_HEIRS_turns ?lt_HEIRS_turns) rfl hmg
    (case gT => k_is); (case mkT => k_is); (case inT => k_is); (case isT => k_is); (case kpT => k_is); (case pgT => k_is); (case icT => k_is); (case poT => k_is); (case saT => k_is); (case sa0T => k_is); (case sg0T => k_is); (case st0T => k_is); (case sy0T => k_is); (case sx0T => k_is); (case sa1T => k_is); (case sg1T => k_is); (case st1T => k_is); (case sy1T => k_is); (case sx1T => k_is); (case lkT => k_is); (case cdT => k_is); (case kfT => k_is); (case ldT => k_is); (case l0T => k_is); (case i1T => k_is); (case i2T => k_is); (case i3T => k_is); (case i4T => k_is); (case i5T => k_is); (case i6T => k_is); (case i7T => k_is); (case i8T => k_is); (case i0T => k_is); (case iaT => k_is); (case ibT => k_is); (case icT2 => k_is); (case idT => k_is); (case i9T => k_is); (case a_is_number => k_is); (case l_is_number => k_is); (case c_is_number => k_is); (case k_is_number => k_is); (case a_tupled => k_is); (case l_tupled => k_is); (case c_tupled => k_is); (case k_tupled => k_is); (case a_number_in => k_is); (case l_number_in => k_is); (case c_number_in => k_is); (case k_number_in => k_is); (case a_run_text => k_is); (case l_run_text => k_is); (case c_run_text => k_is); (case k_run_text => k_is); (case a_runs_text => k_is); (case l_runs_text => k_is); (case c_runs_text => k_is); (case k_runs_text => k_is); (case a_run_in => k_is); (case l_run_in => k_is); (case c_run_in => k_is); (case k_run_in => k_is); (case a_runs_from => k_is); (case l_runs_from => k_is); (case c_runs_from => k_is); (case k_runs_from => k_is); (case a_joined_runs => k_is); (case l_joined_runs => k_is); (case c_joined_runs => k_is); (case k_joined_runs => k_is); (case a_ends_of => k_is); (case l_ends_of => k_is); (case c_ends_of => k_is); (case k_ends_of => k_is); (case a_is_run => k_is); (case l_is_run => k_is); (case c_is_run => k_is); (case k_is_run => k_is); (case a_is_runs => k_is); (case l_is_runs => k_is); (case c_is_runs => k_is); (case k_is_runs => k_is); (case pa_T_runs => k_is); (case pg_T_runs => k_is); (case pt_T_runs => k_is); (case pr_T_runs => k_is); (case l_T_runs => k_is); (case c_T_runs => k_is); (case k_T_runs => k_is); (case a_backwards => k_is); (case l_backwards => k_is); (case c_backwards => k_is); (case k_backwards => k_is); (case a_swapped => k_is); (case l_swapped => k_is); (case c_swapped => k_is); (case k_swapped => k_is); (case a_law_box => k_is); (case l_law_box => k_is); (case c_law_box => k_is); (case k_law_box => k_is); (case a_law_take => k_is); (case l_law_take => k_is); (case c_law_take => k_is); (case k_law_take => k_is); (case a_law_cells => k_is); (case l_law_cells => k_is); (case c_law_cells => k_is); (case k_law_cells => k_is); (case a_law_of => k_is); (case l_law_of => k_is); (case c_law_of => k_is); (case k_law_of => k_is); (case a_law_same => k_is); (case l_law_same => k_is); (case c_law_same => k_is); (case k_law_same => k_is); (case a_law_lists => k_is); (case l_law_lists => k_is); (case c_law_lists => k_is); (case k_law_lists => k_is); (case a_law_much => k_is); (case l_law_much => k_is); (case c_law_much => k_is); (case k_law_much => k_is); (case a_law_bits => k_is); (case l_law_bits => k_is); (case c_law_bits => k_is); (case k_law_bits => k_is); (case a_law_joined => k_is); (case l_law_joined => k_is); (case c_law_joined => k_is); (case k_law_joined => k_is); (case pa_T_size => k_is); (case pg_T_size => k_is); (case pt_T_size => k_is); (case pr_T_size => k_is); (case l_T_size => k_is); (case c_T_size => k_is); (case k_T_size => k_is); (case pa_T_hers => k_is); (case pg_T_hers => k_is); (case pt_T_hers => k_is); (case pr_T_hers => k_is); (case l_T_hers => k_is); (case c_T_hers => k_is); (case k_T_hers => k_is); (case pa_T_his => k_is); (case pg_T_his => k_is); (case pt_T_his => k_is); (case pr_T_his => k_is); (case l_T_his => k_is); (case c_T_his => k_is); (case k_T_his => k_is); (case pa_T_ends => k_is); (case pg_T_ends => k_is); (case pt_T_ends => k_is); (case pr_T_ends => k_is); (case l_T_ends => k_is); (case c_T_ends => k_is); (case k_T_ends => k_is); (case ma_T_len => k_is); (case mb_T_len => k_is); (case mc_T_len => k_is); (case l_T_len => k_is); (case c_T_len => k_is); (case k_T_len => k_is); (case a_law_shown => k_is); (case l_law_shown => k_is); (case c_law_shown => k_is); (case k_law_shown => k_is); (case a_law_kept => k_is); (case l_law_kept => k_is); (case c_law_kept => k_is); (case k_law_kept => k_is); (case a_law_due => k_is); (case l_law_due => k_is); (case c_law_due => k_is); (case k_law_due => k_is); (case a_law_kinds_right => k_is); (case l_law_kinds_right => k_is); (case c_law_kinds_right => k_is); (case k_law_kinds_right => k_is); (case ma_T_eq => k_is); (case mb_T_eq => k_is); (case mc_T_eq => k_is); (case l_T_eq => k_is); (case c_T_eq => k_is); (case k_T_eq => k_is); (case ma_T_add => k_is); (case mb_T_add => k_is); (case mc_T_add => k_is); (case l_T_add => k_is); (case c_T_add => k_is); (case k_T_add => k_is); (case a_law_by_hand_right => k_is); (case l_law_by_hand_right => k_is); (case c_law_by_hand_right => k_is); (case k_law_by_hand_right => k_is); (case a_law_case_right => k_is); (case l_law_case_right => k_is); (case c_law_case_right => k_is); (case k_law_case_right => k_is); (case a_law_right => k_is); (case l_law_right => k_is); (case c_law_right => k_is); (case k_law_right => k_is); (case a_law => k_is); (case l_law => k_is); (case c_law => k_is); (case k_law => k_is); (case eg_BadRun => k_is); (case el_BadRun => k_is); (case esa_BadRun => k_is); (case eex_BadRun => k_is); (case ety_BadRun => k_is); (case ek_BadRun => k_is); (case ei_BadRun => k_is); (case eti_BadRun => k_is); (case eno_BadRun => k_is); (case ega_BadRun => k_is); (case egg_BadRun => k_is); (case ehd_BadRun => k_is); (case eli_BadRun => k_is); (case eci_BadRun => k_is); (case eki_BadRun => k_is); (case eg_BadText => k_is); (case el_BadText => k_is); (case esa_BadText => k_is); (case eex_BadText => k_is); (case ety_BadText => k_is); (case ek_BadText => k_is); (case ei_BadText => k_is); (case eti_BadText => k_is); (case eno_BadText => k_is); (case ega_BadText => k_is); (case egg_BadText => k_is); (case ehd_BadText => k_is); (case eli_BadText => k_is); (case eci_BadText => k_is); (case eki_BadText => k_is); (case eg_NoPlace => k_is); (case el_NoPlace => k_is); (case esa_NoPlace => k_is); (case eex_NoPlace => k_is); (case ety_NoPlace => k_is); (case ek_NoPlace => k_is); (case ei_NoPlace => k_is); (case eti_NoPlace => k_is); (case eno_NoPlace => k_is); (case ega_NoPlace => k_is); (case egg_NoPlace => k_is); (case ehd_NoPlace => k_is); (case eli_NoPlace => k_is); (case eci_NoPlace => k_is); (case eki_NoPlace => k_is); (case ka_BadRun => k_is); (case km_BadRun => k_is); (case ka_BadText => k_is); (case km_BadText => k_is); (case ka_NoPlace => k_is); (case km_NoPlace => k_is); (case kn => k_is); (case kt => k_is); (case gH => k_is); (case hHd => k_is); (case hHt => k_is); (case hHe => k_is); (case su_H_H => k_is); (case ki_BadRun_ValueError => k_is); (case ki_BadText_ValueError => k_is); (case ki_NoPlace_ValueError => k_is); (case su_BadRun_H => k_is); (case su_BadText_H => k_is); (case su_NoPlace_H => k_is); (case su_BadRun_BadRun => k_is); (case su_BadText_BadRun => k_is); (case su_NoPlace_BadRun => k_is); (case z_ValueError => k_is); (case z_abs => k_is); (case z_all => k_is); (case z_bool => k_is); (case z_enumerate => k_is); (case z_int => k_is); (case z_isinstance => k_is); (case z_len => k_is); (case z_list => k_is); (case z_range => k_is); (case z_str => k_is); (case z_sum => k_is); (case z_tuple => k_is); (case z_zip => k_is); (case q_DIGITS => k_is); (case q_BLANK => k_is); (case q_BETWEEN => k_is); (case q_NOTHING => k_is); (case q_PAIR_texts => k_is); (case q_HEIRS_texts => k_is); (case lt_HEIRS_texts => k_is); (case q_PAIR_turns => k_is); (case q_HEIRS_turns => k_is); (case lt_HEIRS_turns => k_is)
