import PyProof.Rows.All
import Wide.All
import OpenK.AllK
import Wide.FinOn
import HandS.ForMost
import HandS.ForExc
import HandS.CallSlots
import HandS.Slots
import HandS.ExcValue
import HandS.ExcInit
import HandS.Lambda
import HandS.TupAny
import HandS.NoneIn
import HandS.Zip
import HandS.TupMul
import HandS.IsInst
import HandS.Style
import PyProof.Rows.SortShellAny
import PyProof.TupleOfSeq
import HandS.Flow
import HandS.ExcField
import HandS.SetFor
import HandS.ExcIs
import KE.GoesEnum
import HandS.SlotsOwn
import HandS.Defaults
import HandS.Star
import HandS.FltList
import KE.DataFind
import KE.KSortTupG
import HandS.TupSets
import PyProof.TupleOfStr
import HandS.ClsMeth
import HandS.NamedTupGet
import HandS.Conv
import HandS.Wide
import KE.KTryMore
import HandS.NamedTupSort
import HandS.Deep
import KE.KDictZip
import PyProof.CollectStr
import PyProof.EnumMake
import PyProof.ListStr
import HandS.CallLocal
import HandS.DictComp
import HandS.Iter
import HandS.Strs
import KE.KDictPairs
import HandS.DeepEq
import HandS.Replace
import KE.GoesRaise
import KE.KAsSuite
import KE.SortData
import KE.KDictSum
import KE.GoesZip
import HandS.FStr
import HandS.DictTup
import KE.KDictDisplayH
import KE.KDictWalk
import KE.GoesNewDict
import KE.SortKeyHeap
import HandS.EndTab
import HandS.ReplaceLit
import PySem.Challenge.RW_heirturns_k02_wrong_texts_of_runs
set_option Elab.async false
set_option linter.all false
set_option maxRecDepth 100000
set_option maxHeartbeats 4000000
namespace Lq
open PySem PySem.Spec PyProof.Rows L2
/-! ### plain data -/
inductive D where
  | non
  | bl (b : Bool)
  | int (i : Int)
  | str (s : Str)
  | lst (xs : List D)
  | tup (xs : List D)
  | obj (t : Nat) (fs : List D)
  | scr (ns : List Int)
inductive Cell where
  | no
  | d (x : D)
  | m (xs : List D)
  | b (ns : List Int)
  | s (t : Nat)
  | k (l : List (Key × D))
  | kt (l : List (List Key × D))
abbrev Rho := List Cell
/-- a value: data, or the list that a slot holds as its own -/
inductive VD where
  | d (x : D)
  | sl (i : Nat)
/-- an error: its class, its fields -/
structure Xn where
  t : Nat
  fs : List D
inductive R (α : Type) where
  | ok (a : α) (r : Rho)
  | err (x : Xn) (r : Rho)
  | bad
def R.bind {α β : Type} (r : R α) (k : α → Rho → R β) : R β := match r with
  | .ok a q => k a q
  | .err x q => .err x q
  | .bad => .bad
/-- what a def gives -/
inductive Res where
  | ok (d : D)
  | err (x : Xn)
  | bad
/-! ### what stays: all but the tables of code objects, which grow -/
def NoTb (o : HO) : Prop := ∀ ps, o ≠ .tbl ps
structure Same (S H : Hp) : Prop where
  at_ : ∀ b o, S b = some o → NoTb o → H b = some o
  tb : ∀ b ps, S b = some (.tbl ps) → ∃ qs, H b = some (.tbl qs)
theorem Same.get {S H : Hp} (e : Same S H) (b : Addr) (o : HO) (h : S b = some o) (n : NoTb o := by first | exact fun _ z => nomatch z | assumption) : H b = some o := e.at_ b o h n
instance {S H : Hp} : CoeFun (Same S H) fun _ => ∀ (b : Addr) (o : HO) (_ : S b = some o) (_ : NoTb o), H b = some o := ⟨@Same.get S H⟩
theorem Same.refl (S : Hp) : Same S S := ⟨fun _ _ h _ => h, fun _ ps h => ⟨ps, h⟩⟩
theorem Same.trans {S H G : Hp} (a : Same S H) (b : Same H G) : Same S G := ⟨fun c o h n => b.at_ c o (a.at_ c o h n) n, fun c ps h => by obtain ⟨qs, h1⟩ := a.tb c ps h; exact b.tb c qs h1⟩
theorem Same.free {S H : Hp} (e : Same S H) {l : Addr} (h : H l = none) : S l = none := by
  cases q : S l with
  | none => rfl
  | some o =>
    by_cases n : ∃ ps, o = .tbl ps
    · obtain ⟨ps, rfl⟩ := n
      obtain ⟨qs, z⟩ := e.tb l ps q
      rw [h] at z; cases z
    · have z := e.at_ l o q fun ps w => n ⟨ps, w⟩
      rw [h] at z; cases z
theorem Same.seq {K : PySem.W.Frag} {S H : Hp} {a : Addr} {xs : List V} (e : Same S H) (h : SqL K S a xs) : SqL K H a xs := by
  rcases h with (h | ⟨o, h⟩) | h
  · exact .inl (.inl (e _ _ h))
  · exact .inl (.inr ⟨o, e _ _ h⟩)
  · exact .inr h
theorem Same.of {S H : Hp} (h : ∀ b o, S b = some o → H b = some o) : Same S H := ⟨fun b o q _ => h b o q, fun b ps q => ⟨ps, h b _ q⟩⟩
theorem Same.step {S H S' H' : Hp} (e : Same S H) (h : ∀ b o, S' b = some o → H' b = some o ∨ (S b = some o ∧ H' b = H b)) : Same S' H' := ⟨fun b o q n => by
  rcases h b o q with z | ⟨z1, z2⟩
  · exact z
  · rw [z2]; exact e.at_ b o z1 n, fun b ps q => by
  rcases h b _ q with z | ⟨z1, z2⟩
  · exact ⟨ps, z⟩
  · rw [z2]; exact e.tb b ps z1⟩
theorem Same.eq {S H : Hp} {b : Addr} {o u : HO} (e : Same S H) (h : S b = some o) (h' : H b = some u) (n : NoTb u := by first | exact fun _ z => nomatch z | assumption) : o = u := by
  have nu : NoTb o := fun ps w => by
    subst w
    obtain ⟨qs, w⟩ := e.tb b ps h
    rw [h'] at w; cases w; exact n qs rfl
  have := e.at_ b o h nu
  rw [h'] at this; cases this; rfl
/-- no tuple -/
def NoT (o : HO) : Prop := ∀ xs, o ≠ .tup xs
/-- where something stands, something stands -/
theorem Same.there {S H : Hp} {b : Addr} {o : HO} (e : Same S H) (h : S b = some o) (n : NoT o) : ∃ u, H b = some u ∧ NoT u := by
  by_cases z : ∃ ps, o = .tbl ps
  · obtain ⟨ps, rfl⟩ := z
    obtain ⟨qs, w⟩ := e.tb b ps h
    exact ⟨_, w, fun _ z => nomatch z⟩
  · exact ⟨o, e.at_ b o h fun ps w => z ⟨ps, w⟩, n⟩
abbrev Tb := Nat → Addr
/-- the kinds of objects: errors below 20, instances with slots from 20 on -/
def flds : Nat → List Str
  | 0 => ["place"] | 1 => ["piece"] | 2 => ["number"] | 3 => ["name"] | 4 => ["number"] | 5 => ["given"] | 6 => ["given"] | 7 => ["name"] | 8 => ["given"] | 9 => ["name"] | 10 => ["name"] | 11 => ["number"]
  | _ => []
def isEx (t : Nat) : Bool := Nat.blt t 20
/-- instances with slots -/
def isSl (t : Nat) : Bool := Nat.ble 20 t && Nat.blt t 57
/-- tuples whose object is known -/
def isPt (t : Nat) : Bool := Nat.beq t 58
/-- dicts -/
def isDc (t : Nat) : Bool := Nat.beq t 59 || Nat.beq t 57
/-- defs as values -/
def isFn (t : Nat) : Bool := Nat.ble 60 t
theorem sl_ex {t : Nat} (h : isSl t = true) : isEx t = false := by
  unfold isSl at h
  unfold isEx
  rw [Bool.and_eq_true, Nat.ble_eq] at h
  cases q : Nat.blt t 20 with
  | false => rfl
  | true => rw [Nat.blt_eq] at q; omega
theorem fn_ex {t : Nat} (h : isFn t = true) : isEx t = false := by
  unfold isFn at h
  unfold isEx
  rw [Nat.ble_eq] at h
  cases q : Nat.blt t 20 with
  | false => rfl
  | true => rw [Nat.blt_eq] at q; omega
theorem pt_at {t : Nat} (h : isPt t = true) : t = 58 := Nat.eq_of_beq_eq_true h
theorem pt_ex {t : Nat} (h : isPt t = true) : isEx t = false := by rw [pt_at h]; rfl
theorem dc_at {t : Nat} (h : isDc t = true) : t = 59 ∨ t = 57 := by
  unfold isDc at h
  rw [Bool.or_eq_true] at h
  exact h.imp Nat.eq_of_beq_eq_true Nat.eq_of_beq_eq_true
theorem dc_ex {t : Nat} (h : isDc t = true) : isEx t = false := by rcases dc_at h with rfl | rfl <;> rfl
/-- the keys and values of a dict, one behind the other -/
def flatKV : List (Key × V) → List V
  | [] => []
  | p :: r => L2.kV p.1 :: p.2 :: flatKV r
/-- a dict whose keys are tuples: of each pair the key's length, its items, the value -/
def flatKT : List (List Key × V) → List V
  | [] => []
  | p :: r => .int (p.1.length : Nat) :: (p.1.map L2.kV ++ p.2 :: flatKT r)
def DV (t : Nat) (u : HO) (vs : List V) : Prop := (t = 59 ∧ ∃ kvs : List (Key × V), u = .dK kvs ∧ vs = flatKV kvs) ∨ (t = 57 ∧ ∃ kvs : List (List Key × V), u = .dT kvs ∧ vs = flatKT kvs)
/-- an error that was caught, at a -/
def ExK (C d a : Addr) : HO := .ext fun h => ∃ (oe : Obj) (vs : Array Value), h.get? a = some oe ∧ Zc (.ref C) (some d) oe ∧ oe.data = .fields vs
def OB (T : Tb) (S : Hp) (t : Nat) (a : Addr) (vs : List V) : Prop :=
  (isEx t = true ∧ ∃ dd, S a = some (ExK (T t) dd a) ∧ S dd = some (.xd ((flds t).zip vs))) ∨ (isSl t = true ∧ ∃ dx, S a = some (SlX.SlO a (T t) dx (vs.map some)) ∧ S dx = some (.xd [])) ∨ (isFn t = true ∧ a = T t ∧ vs = []) ∨ (isDc t = true ∧ ∃ (o : Obj) (u : HO), S a = some (.frz o u) ∧ DV t u vs) ∨ (isPt t = true ∧ ∃ o : Obj, S a = some (.frz o (.tup vs)) ∧ o.dict = none)
theorem OB.mono {T : Tb} {S S' : Hp} {t : Nat} {a : Addr} {vs : List V} (e : Same S S') (h : OB T S t a vs) : OB T S' t a vs := by
  rcases h with ⟨h, dd, h1, h2⟩ | ⟨h, dd, h1, h2⟩ | h | ⟨h, o, kvs, h1, h2⟩ | ⟨h, o, h1, h2⟩
  · exact .inl ⟨h, dd, e _ _ h1, e _ _ h2⟩
  · exact .inr (.inl ⟨h, dd, e _ _ h1, e _ _ h2⟩)
  · exact .inr (.inr (.inl h))
  · exact .inr (.inr (.inr (.inl ⟨h, o, kvs, e _ _ h1, h2⟩)))
  · exact .inr (.inr (.inr (.inr ⟨h, o, e _ _ h1, h2⟩)))
mutual
def Rp (K : PySem.W.Frag) (T : Tb) (S : Hp) : D → V → Prop
  | .non, v => v = .non
  | .bl b, v => v = .bl b
  | .int i, v => v = .int i
  | .str x, v => v = .str x
  | .lst ds, v => ∃ a vs, v = .ref a ∧ S a = some (.lst vs) ∧ Rps K T S ds vs
  | .tup ds, v => ∃ a vs, v = .ref a ∧ SqT K S a vs ∧ Rps K T S ds vs
  | .obj t ds, v => ∃ a vs, v = .ref a ∧ OB T S t a vs ∧ Rps K T S ds vs
  | .scr ns, v => ∃ a, v = .ref a ∧ SqL K S a (ns.map V.int)
def Rps (K : PySem.W.Frag) (T : Tb) (S : Hp) : List D → List V → Prop
  | [], vs => vs = []
  | d :: ds, vs => ∃ v r, vs = v :: r ∧ Rp K T S d v ∧ Rps K T S ds r
end
section
variable {K : PySem.W.Frag} {T : Tb} {S S' : Hp}
theorem same_tup {a : Addr} {xs : List V} (e : Same S S') (h : SqT K S a xs) : SqT K S' a xs := by
  rcases h with h | h
  · rcases h with h | ⟨o, h⟩
    · exact .inl (.inl (e _ _ h))
    · exact .inl (.inr ⟨o, e _ _ h⟩)
  · exact .inr h
mutual
theorem Rp.mono (e : Same S S') : ∀ (d : D) (v : V), Rp K T S d v → Rp K T S' d v
  | .non, _, h => h
  | .bl _, _, h => h
  | .int _, _, h => h
  | .str _, _, h => h
  | .lst ds, _, ⟨a, vs, e1, h, hs⟩ => ⟨a, vs, e1, e _ _ h, Rps.mono e ds vs hs⟩
  | .tup ds, _, ⟨a, vs, e1, h, hs⟩ => ⟨a, vs, e1, same_tup e h, Rps.mono e ds vs hs⟩
  | .obj _ ds, _, ⟨a, vs, e1, h, hs⟩ => ⟨a, vs, e1, h.mono e, Rps.mono e ds vs hs⟩
  | .scr _, _, ⟨a, e1, h⟩ => ⟨a, e1, e.seq h⟩
theorem Rps.mono (e : Same S S') : ∀ (ds : List D) (vs : List V), Rps K T S ds vs → Rps K T S' ds vs
  | [], _, h => h
  | d :: ds, _, ⟨v, r, e1, h, hs⟩ => ⟨v, r, e1, Rp.mono e d v h, Rps.mono e ds r hs⟩
end
theorem Rps.len : ∀ {ds : List D} {vs : List V}, Rps K T S ds vs → vs.length = ds.length
  | [], _, h => by rw [show _ = [] from h]; rfl
  | d :: ds, _, ⟨v, r, e1, h, hs⟩ => by rw [e1, List.length_cons, List.length_cons, Rps.len hs]
theorem Rps.get : ∀ {ds : List D} {vs : List V} {i : Nat} {d : D}, Rps K T S ds vs → ds[i]? = some d → ∃ v, vs[i]? = some v ∧ Rp K T S d v
  | [], _, _, _, h, e => by simp at e
  | d :: ds, _, 0, _, ⟨v, r, e1, h, hs⟩, e => by
    simp at e; subst e; exact ⟨v, by rw [e1]; rfl, h⟩
  | d :: ds, _, i + 1, _, ⟨v, r, e1, h, hs⟩, e => by
    obtain ⟨w, h1, h2⟩ := Rps.get (i := i) hs (by simpa using e)
    exact ⟨w, by rw [e1]; simpa using h1, h2⟩
theorem Rps.append : ∀ {ds es : List D} {vs ws : List V}, Rps K T S ds vs → Rps K T S es ws → Rps K T S (ds ++ es) (vs ++ ws)
  | [], _, _, _, h, q => by rw [show _ = [] from h]; exact q
  | d :: ds, _, _, _, ⟨v, r, e1, h, hs⟩, q => ⟨v, r ++ _, by rw [e1]; rfl, h, Rps.append hs q⟩
theorem Rps.take : ∀ {ds : List D} {vs : List V} (n : Nat), Rps K T S ds vs → Rps K T S (ds.take n) (vs.take n)
  | _, _, 0, _ => by simp only [List.take_zero]; exact rfl
  | [], _, n + 1, h => by rw [show _ = [] from h]; simp only [List.take_nil]; exact rfl
  | d :: ds, _, n + 1, ⟨v, r, e1, h, hs⟩ => by rw [e1]; exact ⟨v, r.take n, rfl, h, Rps.take n hs⟩
theorem Rps.drop : ∀ {ds : List D} {vs : List V} (n : Nat), Rps K T S ds vs → Rps K T S (ds.drop n) (vs.drop n)
  | _, _, 0, h => h
  | [], _, n + 1, h => by rw [show _ = [] from h]; simp only [List.drop_nil]; exact rfl
  | d :: ds, _, n + 1, ⟨v, r, e1, h, hs⟩ => by rw [e1]; exact Rps.drop n hs
theorem Rps.reverse : ∀ {ds : List D} {vs : List V}, Rps K T S ds vs → Rps K T S ds.reverse vs.reverse
  | [], _, h => by rw [show _ = [] from h]; exact rfl
  | d :: ds, _, ⟨v, r, e1, h, hs⟩ => by
    rw [e1, List.reverse_cons, List.reverse_cons]
    exact Rps.append (Rps.reverse hs) ⟨v, [], rfl, h, rfl⟩
theorem Rps.one {d : D} {v : V} (h : Rp K T S d v) : Rps K T S [d] [v] := ⟨v, [], rfl, h, rfl⟩
theorem Rps.set : ∀ {ds : List D} {vs : List V} {d : D} {v : V} (i : Nat), Rps K T S ds vs → Rp K T S d v → Rps K T S (ds.set i d) (vs.set i v)
  | [], _, _, _, _, h, _ => by rw [show _ = [] from h]; exact rfl
  | d :: ds, _, _, _, 0, ⟨v, r, e1, h, hs⟩, q => by rw [e1]; exact ⟨_, r, rfl, q, hs⟩
  | d :: ds, _, _, _, i + 1, ⟨v, r, e1, h, hs⟩, q => by rw [e1]; exact ⟨v, _, rfl, h, Rps.set i hs q⟩
theorem Rps.ints : ∀ (ns : List Int), Rps K T S (ns.map D.int) (ns.map V.int)
  | [] => rfl
  | n :: ns => ⟨_, _, rfl, rfl, Rps.ints ns⟩
theorem Rps.strs : ∀ (ns : List Str), Rps K T S (ns.map D.str) (ns.map V.str)
  | [] => rfl
  | n :: ns => ⟨_, _, rfl, rfl, Rps.strs ns⟩
/-- ints read back -/
def D.int? : D → Option Int
  | .int i => some i
  | _ => none
def D.str? : D → Option Str
  | .str i => some i
  | _ => none
def D.bl? : D → Option Bool
  | .bl i => some i
  | _ => none
def D.items? : D → Option (List D)
  | .lst xs => some xs
  | .tup xs => some xs
  | _ => none
def allOf {α : Type} (f : D → Option α) : List D → Option (List α)
  | [] => some []
  | d :: ds => match f d, allOf f ds with
    | some a, some l => some (a :: l)
    | _, _ => none
theorem allOf_ints : ∀ {ds : List D} {ns : List Int}, allOf D.int? ds = some ns → ds = ns.map D.int
  | [], ns, h => by simp [allOf] at h; subst h; rfl
  | d :: ds, ns, h => by
    cases d <;> simp [allOf, D.int?] at h
    rename_i i
    cases q : allOf D.int? ds with
    | none => rw [q] at h; simp at h
    | some l => rw [q] at h; simp at h; subst h; rw [allOf_ints q]; rfl
theorem allOf_strs : ∀ {ds : List D} {ns : List Str}, allOf D.str? ds = some ns → ds = ns.map D.str
  | [], ns, h => by simp [allOf] at h; subst h; rfl
  | d :: ds, ns, h => by
    cases d <;> simp [allOf, D.str?] at h
    rename_i i
    cases q : allOf D.str? ds with
    | none => rw [q] at h; simp at h
    | some l => rw [q] at h; simp at h; subst h; rw [allOf_strs q]; rfl
theorem allOf_bls : ∀ {ds : List D} {ns : List Bool}, allOf D.bl? ds = some ns → ds = ns.map D.bl
  | [], ns, h => by simp [allOf] at h; subst h; rfl
  | d :: ds, ns, h => by
    cases d <;> simp [allOf, D.bl?] at h
    rename_i i
    cases q : allOf D.bl? ds with
    | none => rw [q] at h; simp at h
    | some l => rw [q] at h; simp at h; subst h; rw [allOf_bls q]; rfl
theorem Rps.intsV : ∀ {ns : List Int} {vs : List V}, Rps K T S (ns.map D.int) vs → vs = ns.map V.int
  | [], _, h => h
  | n :: ns, _, ⟨v, r, e1, h, hs⟩ => by rw [e1, show v = _ from h, Rps.intsV hs]; rfl
theorem Rps.strsV : ∀ {ns : List Str} {vs : List V}, Rps K T S (ns.map D.str) vs → vs = ns.map V.str
  | [], _, h => h
  | n :: ns, _, ⟨v, r, e1, h, hs⟩ => by rw [e1, show v = _ from h, Rps.strsV hs]; rfl
theorem Rps.blsV : ∀ {ns : List Bool} {vs : List V}, Rps K T S (ns.map D.bl) vs → vs = ns.map V.bl
  | [], _, h => h
  | n :: ns, _, ⟨v, r, e1, h, hs⟩ => by rw [e1, show v = _ from h, Rps.blsV hs]; rfl
/-! ### the table of code objects of a def that makes a lambda -/
def lamQ : Str := "by_price.<locals>.<lambda>"
def Tabs (T : Tb) (H : Hp) : Prop := T 91 = 1 → LamX.TabS H (T 90) lamQ
structure SameT (T : Tb) (S H : Hp) : Prop extends Same S H where
  tab : Tabs T H
theorem SameT.get {T : Tb} {S H : Hp} (e : SameT T S H) (b : Addr) (o : HO) (h : S b = some o) (n : NoTb o := by first | exact fun _ z => nomatch z | assumption) : H b = some o := e.at_ b o h n
instance {T : Tb} {S H : Hp} : CoeFun (SameT T S H) fun _ => ∀ (b : Addr) (o : HO) (_ : S b = some o) (_ : NoTb o), H b = some o := ⟨@SameT.get T S H⟩
instance {T : Tb} {S H : Hp} : CoeOut (SameT T S H) (Same S H) := ⟨SameT.toSame⟩
/-- tables and code objects stay as they are -/
structure Keep (H H' : Hp) : Prop where
  t : ∀ b ps, H b = some (.tbl ps) → H' b = some (.tbl ps)
  c : ∀ c q, H c = some (LamX.CodeO c q) → H' c = some (LamX.CodeO c q)
theorem Keep.tabs {T : Tb} {H H' : Hp} (k : Keep H H') (t : Tabs T H) : Tabs T H' := fun h => by
  obtain ⟨ps, h1, h2, h3⟩ := t h
  refine ⟨ps, k.t _ _ h1, h2, fun pos cv hc => ?_⟩
  obtain ⟨c, e1, e2⟩ := h3 pos cv hc
  exact ⟨c, e1, k.c _ _ e2⟩
theorem Keep.all {H H' : Hp} (h : ∀ b o, H b = some o → H' b = some o) : Keep H H' := ⟨fun b _ q => h b _ q, fun c _ q => h c _ q⟩
theorem Keep.refl (H : Hp) : Keep H H := .all fun _ _ h => h
theorem Keep.new {H : Hp} {p : Addr} {o : HO} (h : H p = none) : Keep H (upd H p o) := .all fun b u e => by
  rw [upd_ne (ne_of_none e h)]; exact e
/-- a plain thing is changed -/
theorem Keep.upd {H : Hp} {p : Addr} {u o : HO} (h : H p = some u) (n : NoTb u := by exact fun _ z => nomatch z) (m : ∀ φ, u ≠ .ext φ := by exact fun _ z => nomatch z) : Keep H (L2.upd H p o) := ⟨fun b ps q => by
  rw [upd_ne (fun z => by subst z; rw [h] at q; exact n ps (Option.some.inj q))]; exact q, fun c r q => by
  rw [upd_ne (fun z => by subst z; rw [h] at q; exact m _ (Option.some.inj q))]; exact q⟩
theorem Keep.trans {H H1 H2 : Hp} (a : Keep H H1) (b : Keep H1 H2) : Keep H H2 := ⟨fun c ps q => b.t c ps (a.t c ps q), fun c r q => b.c c r (a.c c r q)⟩
/-! ### heaps grow -/
structure Ext (T : Tb) (S H S' H' : Hp) : Prop where
  s : Same S S'
  h : Same H H'
  sh : SameT T S' H'
  fr : ∀ b o, H b = some o → NoT o → S b = none → S' b = none
theorem Ext.refl {T : Tb} {S H : Hp} (e : SameT T S H) : Ext T S H S H := ⟨Same.refl _, Same.refl _, e, fun _ _ _ _ z => z⟩
theorem Ext.trans {T : Tb} {S H S1 H1 S2 H2 : Hp} (a : Ext T S H S1 H1) (b : Ext T S1 H1 S2 H2) : Ext T S H S2 H2 :=
  ⟨a.s.trans b.s, a.h.trans b.h, b.sh, fun c o e n => by obtain ⟨u, h1, n1⟩ := a.h.there e n; exact fun z => b.fr c u h1 n1 (a.fr c o e n z)⟩
theorem same_new {H : Hp} {p : Addr} {o : HO} (h : H p = none) : Same H (upd H p o) := .of fun b u e => by
  rw [upd_ne (ne_of_none e h)]; exact e
theorem Same.new1 {S H : Hp} {p : Addr} {o : HO} (e : Same S H) (h : H p = some o) : Same (upd S p o) H := ⟨fun b u q n => by
  by_cases hb : b = p
  · subst hb; rw [upd_same] at q; rw [← q]; exact h
  · rw [upd_ne hb] at q; exact e.at_ b u q n, fun b ps q => by
  by_cases hb : b = p
  · subst hb; rw [upd_same] at q; injection q with q; subst q; exact ⟨_, h⟩
  · rw [upd_ne hb] at q; exact e.tb b ps q⟩
theorem same_upd2 {S H : Hp} {p : Addr} {o : HO} (e : Same S H) : Same (upd S p o) (upd H p o) := ⟨fun b u q n => by
  by_cases hb : b = p
  · subst hb; rw [upd_same] at q ⊢; exact q
  · rw [upd_ne hb] at q ⊢; exact e.at_ b u q n, fun b ps q => by
  by_cases hb : b = p
  · subst hb; rw [upd_same] at q ⊢; exact ⟨_, q⟩
  · rw [upd_ne hb] at q ⊢; exact e.tb b ps q⟩
theorem SameT.new {T : Tb} {S H : Hp} {p : Addr} {o : HO} (e : SameT T S H) (h : H p = none) : SameT T (upd S p o) (upd H p o) := ⟨same_upd2 e.toSame, (Keep.new h).tabs e.tab⟩
theorem SameT.skip {T : Tb} {S H : Hp} {p : Addr} {o : HO} (e : SameT T S H) (h : H p = none) : SameT T S (upd H p o) := ⟨e.toSame.trans (same_new h), (Keep.new h).tabs e.tab⟩
theorem SameT.new1 {T : Tb} {S H : Hp} {p : Addr} {o : HO} (e : SameT T S H) (h : H p = some o) : SameT T (upd S p o) H := ⟨e.toSame.new1 h, e.tab⟩
theorem SameT.step {T : Tb} {S H S' H' : Hp} (e : SameT T S H) (k : Keep H H') (h : ∀ b o, S' b = some o → H' b = some o ∨ (S b = some o ∧ H' b = H b)) : SameT T S' H' := ⟨e.toSame.step h, k.tabs e.tab⟩
theorem Ext.new {T : Tb} {S H : Hp} {p : Addr} {o : HO} (e : SameT T S H) (h : H p = none) : Ext T S H (upd S p o) (upd H p o) :=
  ⟨same_new (e.free h), same_new h, e.new h, fun b u q _ z => by rw [upd_ne (ne_of_none q h)]; exact z⟩
theorem Ext.skip {T : Tb} {S H : Hp} {p : Addr} {o : HO} (e : SameT T S H) (h : H p = none) : Ext T S H S (upd H p o) :=
  ⟨Same.refl _, same_new h, e.skip h, fun b u q _ z => z⟩
/-- what comes is d, behind a growth of the heap -/
def Gv (K : PySem.W.Frag) (T : Tb) (S H : Hp) (d : D) (Q : VK) : Prop := ∀ S' H' v, Ext T S H S' H' → Rp K T S' d v → Q v H'
/-- .. a new list, that nobody else has -/
def Gf (K : PySem.W.Frag) (T : Tb) (S H : Hp) (ds : List D) (Q : VK) : Prop := ∀ S' H' p vs, Ext T S H S' H' → H p = none → S' p = none → H' p = some (.lst vs) → Rps K T S' ds vs → Q (.ref p) H'
theorem Gv.now {H : Hp} {d : D} {v : V} {Q : VK} (g : Gv K T S H d Q) (e : SameT T S H) (r : Rp K T S d v) : Q v H := g S H v (Ext.refl e) r
theorem Gv.newL {H : Hp} {ds : List D} {vs : List V} {Q : VK} (g : Gv K T S H (.lst ds) Q) (e : SameT T S H) (r : Rps K T S ds vs) (p : Addr) (hp : H p = none) : Q (.ref p) (upd H p (.lst vs)) :=
  g _ _ _ (Ext.new e hp) ⟨p, vs, rfl, upd_same, Rps.mono (same_new (e.free hp)) _ _ r⟩
theorem Gv.newT {H : Hp} {ds : List D} {vs : List V} {Q : VK} (g : Gv K T S H (.tup ds) Q) (e : SameT T S H) (r : Rps K T S ds vs) (p : Addr) (hp : H p = none) : Q (.ref p) (upd H p (.tup vs)) :=
  g _ _ _ (Ext.new e hp) ⟨p, vs, rfl, SqT.of upd_same, Rps.mono (same_new (e.free hp)) _ _ r⟩
theorem Gf.new {H : Hp} {ds : List D} {vs : List V} {Q : VK} (g : Gf K T S H ds Q) (e : SameT T S H) (r : Rps K T S ds vs) (p : Addr) (hp : H p = none) : Q (.ref p) (upd H p (.lst vs)) :=
  g _ _ p vs (Ext.skip e hp) hp (e.free hp) upd_same r
theorem Gf.of {H : Hp} {ds : List D} {Q : VK} (g : Gv K T S H (.lst ds) Q) : Gf K T S H ds Q := fun S' H' p vs e hp sp hv r =>
  g (upd S' p (.lst vs)) H' (.ref p) ⟨e.s.trans (same_new sp), e.h, e.sh.new1 hv, fun b o q n => by rw [upd_ne (ne_of_none q hp)]; exact e.fr b o q n⟩ ⟨p, vs, rfl, upd_same, Rps.mono (same_new sp) _ _ r⟩
/-! ### a def's slots -/
/-- what a def may change of its caller's: nothing; the list of draws; the instance that it makes, with its dict -/
inductive Bt where
  | no
  | bx (b : Addr)
  | sf (a dx : Addr)
def CellOk (K : PySem.W.Frag) (T : Tb) (β : Bt) (G S H : Hp) (v : Option (Option V)) : Cell → Prop
  | .no => True
  | .d x => ∃ u, v = some (some u) ∧ Rp K T S x u
  | .m xs => ∃ a vs, v = some (some (.ref a)) ∧ H a = some (.lst vs) ∧ S a = none ∧ G a = none ∧ β ≠ .bx a ∧ Rps K T S xs vs
  | .b ns => ∃ a, v = some (some (.ref a)) ∧ β = .bx a ∧ H a = some (.lst (ns.map V.int))
  | .k l => ∃ a kvs, v = some (some (.ref a)) ∧ H a = some (.dK kvs) ∧ S a = none ∧ G a = none ∧ β ≠ .bx a ∧ kvs.map (·.1) = l.map (·.1) ∧ Rps K T S (l.map (·.2)) (kvs.map (·.2))
  | .kt l => ∃ a kvs, v = some (some (.ref a)) ∧ H a = some (.dT kvs) ∧ S a = none ∧ G a = none ∧ β ≠ .bx a ∧ kvs.map (·.1) = l.map (·.1) ∧ Rps K T S (l.map (·.2)) (kvs.map (·.2))
  | .s t => ∃ a dx, v = some (some (.ref a)) ∧ β = .sf a dx ∧ H a = some (.ins (T t) dx []) ∧ H dx = some (.own a) ∧ S dx = none ∧ G dx = none ∧ S a = none ∧ G a = none
structure Ok (K : PySem.W.Frag) (T : Tb) (β : Bt) (G S : Hp) (σ : L2.St) (ρ : Rho) (H : Hp) : Prop where
  sh : SameT T S H
  gh : Same G H
  gs : ∀ b o, G b = some o → NoT o → S b = none
  gb : ∀ b, β = .bx b → G b = none ∧ S b = none
  bx : ∀ b, β = .bx b → ∃ o : HO, H b = some o ∧ NoT o
  len : σ.length = ρ.length
  cel : ∀ (i : Nat) (c : Cell), ρ[i]? = some c → CellOk K T β G S H σ[i]? c
  dis : ∀ (i j : Nat) (xs ys : List D), ρ[i]? = some (.m xs) → ρ[j]? = some (.m ys) → σ[i]? = σ[j]? → i = j
theorem CellOk.ext {β : Bt} {G H H' : Hp} {v : Option (Option V)} {c : Cell} (h : CellOk K T β G S H v c) (e : Ext T S H S' H') : CellOk K T β G S' H' v c := by
  cases c with
  | no => trivial
  | d x => obtain ⟨u, e1, r⟩ := h; exact ⟨u, e1, Rp.mono e.s _ _ r⟩
  | m xs =>
    obtain ⟨a, vs, e1, e2, e3, e4, e5, r⟩ := h
    exact ⟨a, vs, e1, e.h _ _ e2, (e.fr _ _ e2 (fun _ z => nomatch z) e3), e4, e5, Rps.mono e.s _ _ r⟩
  | b ns => obtain ⟨a, e1, e2, e3⟩ := h; exact ⟨a, e1, e2, e.h _ _ e3⟩
  | k l => obtain ⟨a, kvs, e1, e2, e3, e4, e5, ek, r⟩ := h; exact ⟨a, kvs, e1, e.h _ _ e2, (e.fr _ _ e2 (fun _ z => nomatch z) e3), e4, e5, ek, Rps.mono e.s _ _ r⟩
  | kt l => obtain ⟨a, kvs, e1, e2, e3, e4, e5, ek, r⟩ := h; exact ⟨a, kvs, e1, e.h _ _ e2, (e.fr _ _ e2 (fun _ z => nomatch z) e3), e4, e5, ek, Rps.mono e.s _ _ r⟩
  | s t => obtain ⟨a, dx, e1, e2, e3, e4, e5, e6, e7, e8⟩ := h; exact ⟨a, dx, e1, e2, e.h _ _ e3, e.h _ _ e4, (e.fr _ _ e4 (fun _ z => nomatch z) e5), e6, (e.fr _ _ e3 (fun _ z => nomatch z) e7), e8⟩
theorem Ok.ext {β : Bt} {G H H' : Hp} {σ : L2.St} {ρ : Rho} (o : Ok K T β G S σ ρ H) (e : Ext T S H S' H') : Ok K T β G S' σ ρ H' where
  sh := e.sh
  gh := o.gh.trans e.h
  gs := fun b u q n => by obtain ⟨u1, h1, n1⟩ := o.gh.there q n; exact (e.fr b u1 h1 n1 (o.gs b u q n))
  gb := fun b q => ⟨(o.gb b q).1, by obtain ⟨u, z, n⟩ := o.bx b q; exact (e.fr b _ z n ((o.gb b q).2))⟩
  bx := fun b q => by obtain ⟨u, z, n⟩ := o.bx b q; exact e.h.there z n
  len := o.len
  cel := fun i c q => (o.cel i c q).ext e
  dis := o.dis
/-! ### resolving -/
def RpV (K : PySem.W.Frag) (T : Tb) (σ : L2.St) (S : Hp) : VD → V → Prop
  | .d x, u => Rp K T S x u
  | .sl i, u => σ[i]? = some (some u)
def res : VD → Rho → Option D
  | .d x, _ => some x
  | .sl i, ρ => match ρ[i]? with
    | some (.m xs) => some (.lst xs)
    | some (.b ns) => some (.lst (ns.map D.int))
    | _ => none
/-- d at the top in H, its items in S -/
def RpH (K : PySem.W.Frag) (T : Tb) (S H : Hp) (d : D) (v : V) : Prop := Rp K T S d v ∨ ∃ a vs xs, v = .ref a ∧ d = .lst xs ∧ H a = some (.lst vs) ∧ Rps K T S xs vs
theorem RpV.mono {σ : L2.St} {v : VD} {u : V} (e : Same S S') (h : RpV K T σ S v u) : RpV K T σ S' v u := by
  cases v with
  | d x => exact Rp.mono e _ _ h
  | sl i => exact h
theorem Ok.res {β : Bt} {G H : Hp} {σ : L2.St} {ρ : Rho} {v : VD} {u : V} {d : D} (o : Ok K T β G S σ ρ H) (h : RpV K T σ S v u) (e : res v ρ = some d) : RpH K T S H d u := by
  cases v with
  | d x => simp only [Lq.res, Option.some.injEq] at e; subst e; exact .inl h
  | sl i =>
    simp only [Lq.res] at e
    have h' : σ[i]? = some (some u) := h
    split at e
    · rename_i xs q
      cases e
      obtain ⟨a, vs, e1, e2, e3, e4, e5, r⟩ := o.cel i _ q
      rw [h'] at e1; cases e1
      exact .inr ⟨a, vs, xs, rfl, rfl, e2, r⟩
    · rename_i ns q
      cases e
      obtain ⟨a, e1, e2, e3⟩ := o.cel i _ q
      rw [h'] at e1; cases e1
      exact .inr ⟨a, _, _, rfl, rfl, e3, Rps.ints ns⟩
    · cases e
theorem RpH.int {H : Hp} {i : Int} {v : V} (h : RpH K T S H (.int i) v) : v = .int i := by
  rcases h with h | ⟨_, _, _, _, e, _⟩
  · exact h
  · cases e
theorem RpH.str {H : Hp} {i : Str} {v : V} (h : RpH K T S H (.str i) v) : v = .str i := by
  rcases h with h | ⟨_, _, _, _, e, _⟩
  · exact h
  · cases e
theorem RpH.bl {H : Hp} {i : Bool} {v : V} (h : RpH K T S H (.bl i) v) : v = .bl i := by
  rcases h with h | ⟨_, _, _, _, e, _⟩
  · exact h
  · cases e
theorem RpH.non {H : Hp} {v : V} (h : RpH K T S H .non v) : v = .non := by
  rcases h with h | ⟨_, _, _, _, e, _⟩
  · exact h
  · cases e
theorem RpH.lst {H : Hp} {xs : List D} {v : V} (h : RpH K T S H (.lst xs) v) (e : SameT T S H) : ∃ a vs, v = .ref a ∧ H a = some (.lst vs) ∧ Rps K T S xs vs := by
  rcases h with ⟨a, vs, e1, q, r⟩ | ⟨a, vs, ys, e1, e2, q, r⟩
  · exact ⟨a, vs, e1, e _ _ q, r⟩
  · cases e2; exact ⟨a, vs, e1, q, r⟩
theorem RpH.tup {H : Hp} {xs : List D} {v : V} (h : RpH K T S H (.tup xs) v) (e : SameT T S H) : ∃ a vs, v = .ref a ∧ SqT K H a vs ∧ Rps K T S xs vs := by
  rcases h with ⟨a, vs, e1, q, r⟩ | ⟨a, vs, ys, e1, e2, q, r⟩
  · exact ⟨a, vs, e1, same_tup e q, r⟩
  · cases e2
end
/-! ### what is wanted behind a piece of code -/
/-- an error, as it lies -/
def XR (K : PySem.W.Frag) (T : Tb) (S : Hp) (x : Xn) (c : Value) (d : Option Addr) : Prop :=
  c = .ref (T x.t) ∧ ∃ dd vs, d = some dd ∧ S dd = some (.xd ((flds x.t).zip vs)) ∧ Rps K T S x.fs vs
def Post (K : PySem.W.Frag) (T : Tb) (W : WX) (β : Bt) (G S : Hp) (σ : L2.St) {α γ : Type} (Rl : Hp → α → γ → Prop) (r : R α) (Q : γ → Hp → Prop) : Prop := match r with
  | .ok a ρ' => ∀ S' H' u, Same S S' → Ok K T β G S' σ ρ' H' → Rl S' a u → Q u H'
  | .err x ρ' => ∀ S' H' c d, Same S S' → Ok K T β G S' σ ρ' H' → XR K T S' x c d → W c d σ H'
  | .bad => False
def rG (K : PySem.W.Frag) (T : Tb) (W : WX) {α γ : Type} (Rl : L2.St → Hp → α → γ → Prop) (f : Rho → R α) : L2.St → Hp → (γ → Hp → Prop) → Prop := fun σ H Q =>
  ∃ β G S ρ, Ok K T β G S σ ρ H ∧ Post K T W β G S σ (Rl σ) (f ρ) Q
section
variable {K : PySem.W.Frag} {T : Tb} {W : WX} {β : Bt} {G S S' : Hp} {σ : L2.St} {α γ α' γ' : Type} {Rl : Hp → α → γ → Prop} {Rl' : Hp → α' → γ' → Prop}
theorem Post.mono {r : R α} {Q : γ → Hp → Prop} (h : Post K T W β G S σ Rl r Q) (e : Same S S') : Post K T W β G S' σ Rl r Q := by
  cases r with
  | ok a ρ' => exact fun S2 H2 u e2 o r => h S2 H2 u (e.trans e2) o r
  | err x ρ' => exact fun S2 H2 c d e2 o r => h S2 H2 c d (e.trans e2) o r
  | bad => exact h
theorem Post.bind {r : R α} {k : α → Rho → R α'} {Q : γ' → Hp → Prop} (h : Post K T W β G S σ Rl' (r.bind k) Q) :
    Post K T W β G S σ Rl r (fun u H1 => ∃ S1 ρ1 a, Same S S1 ∧ Ok K T β G S1 σ ρ1 H1 ∧ Rl S1 a u ∧ Post K T W β G S1 σ Rl' (k a ρ1) Q) := by
  cases r with
  | ok a ρ' => exact fun S1 H1 u e o q => ⟨S1, ρ', a, e, o, q, h.mono e⟩
  | err x ρ' => exact h
  | bad => exact h.elim
theorem Post.thn {r : R α} {k : α → Rho → R α'} {Q : γ' → Hp → Prop} {Q' : γ → Hp → Prop} (h : Post K T W β G S σ Rl' (r.bind k) Q)
    (f : ∀ S1 H1 ρ1 a u, Same S S1 → Ok K T β G S1 σ ρ1 H1 → Rl S1 a u → Post K T W β G S1 σ Rl' (k a ρ1) Q → Q' u H1) : Post K T W β G S σ Rl r Q' := by
  cases r with
  | ok a ρ' => exact fun S1 H1 u e o q => f S1 H1 ρ' a u e o q (Post.mono h e)
  | err x ρ' => exact h
  | bad => exact h.elim
theorem Post.gv {ρ : Rho} {H : Hp} {d : D} {Q : VK} (h : Post K T W β G S σ (RpV K T σ) (.ok (.d d) ρ) Q) (o : Ok K T β G S σ ρ H) : Gv K T S H d Q :=
  fun S' H' v e r => h S' H' v e.s (o.ext e) r
end
/-- an expression, a test, arguments -/
abbrev rE (K : PySem.W.Frag) (T : Tb) (W : WX) (f : Rho → R VD) : TE := rG K T W (RpV K T) f
abbrev rT (K : PySem.W.Frag) (T : Tb) (W : WX) (f : Rho → R Bool) : TT := rG K T W (fun _ _ (b c : Bool) => b = c) f
def RpVs (K : PySem.W.Frag) (T : Tb) (σ : L2.St) (S : Hp) : List VD → List V → Prop
  | [], us => us = []
  | v :: vs, us => ∃ u r, us = u :: r ∧ RpV K T σ S v u ∧ RpVs K T σ S vs r
theorem RpVs.mono {K : PySem.W.Frag} {T : Tb} {σ : L2.St} {S S' : Hp} (e : Same S S') : ∀ {vs : List VD} {us : List V}, RpVs K T σ S vs us → RpVs K T σ S' vs us
  | [], _, h => h
  | _ :: _, _, ⟨u, r, e1, h, hs⟩ => ⟨u, r, e1, h.mono e, RpVs.mono e hs⟩
abbrev rA (K : PySem.W.Frag) (T : Tb) (W : WX) (f : Rho → R (List VD)) : TA := rG K T W (RpVs K T) f
def XE (X : Cx) (T : Tb) (W : WX) (e : Expr) (f : Rho → R VD) : Prop := PE X e (rE X.K T W f)
def XT (X : Cx) (T : Tb) (W : WX) (e : Expr) (f : Rho → R Bool) : Prop := PT X e (rT X.K T W f)
def XA (X : Cx) (T : Tb) (W : WX) (es : List Expr) (f : Rho → R (List VD)) : Prop := PA X es (rA X.K T W f)
theorem _root_.L2.PE.impQ {X : Cx} {e : Expr} {t t' : TE} (h : PE X e t) (i : ∀ σ H Q, t' σ H Q → t σ H Q) : PE X e t' := ⟨fun pins s σ H Q I w => h.run pins s σ H Q I (i σ H Q w)⟩
theorem _root_.L2.PT.impQ {X : Cx} {e : Expr} {t t' : TT} (h : PT X e t) (i : ∀ σ H Q, t' σ H Q → t σ H Q) : PT X e t' := ⟨fun pins s σ H Q I w => h.run pins s σ H Q I (i σ H Q w)⟩
theorem _root_.L2.PA.impQ {X : Cx} {e : List Expr} {t t' : TA} (h : PA X e t) (i : ∀ σ H Q, t' σ H Q → t σ H Q) : PA X e t' := ⟨fun pos pins s σ H Q I w => h.run pos pins s σ H Q I (i σ H Q w)⟩
theorem _root_.L2.PS.impQ {X : Cx} {e : Stmt} {t t' : TS} (h : PS X e t) (i : ∀ D σ H, t' D σ H → t D σ H) : PS X e t' := ⟨fun pins s σ H D I w => h.run pins s σ H D I (i D σ H w)⟩
theorem _root_.L2.PSs.impQ {X : Cx} {e : List Stmt} {t t' : TS} (h : PSs X e t) (i : ∀ D σ H, t' D σ H → t D σ H) : PSs X e t' := ⟨fun pins s σ H D I w => h.run pins s σ H D I (i D σ H w)⟩
end Lq
namespace Lq
open PySem PySem.Spec PyProof.Rows L2
def nameE (i : Nat) : Rho → R VD := fun ρ => match ρ[i]? with
  | some (.d x) => .ok (.d x) ρ
  | some (.m _) => .ok (.sl i) ρ
  | some (.b _) => .ok (.sl i) ρ
  | _ => .bad
def constE (d : D) : Rho → R VD := fun ρ => .ok (.d d) ρ
def lift1 (g : D → Option D) (v : VD) (ρ : Rho) : R VD := match res v ρ with
  | some x => (match g x with | some d => .ok (.d d) ρ | none => .bad)
  | none => .bad
def lift2 (g : D → D → Option D) (v w : VD) (ρ : Rho) : R VD := match res v ρ, res w ρ with
  | some x, some y => (match g x y with | some d => .ok (.d d) ρ | none => .bad)
  | _, _ => .bad
def op1E (g : D → Option D) (fa : Rho → R VD) : Rho → R VD := fun ρ => (fa ρ).bind fun v ρ1 => lift1 g v ρ1
def op2E (g : D → D → Option D) (fa fb : Rho → R VD) : Rho → R VD := fun ρ => (fa ρ).bind fun v ρ1 => (fb ρ1).bind fun w ρ2 => lift2 g v w ρ2
def resAll : List VD → Rho → Option (List D)
  | [], _ => some []
  | v :: vs, ρ => match res v ρ, resAll vs ρ with
    | some x, some xs => some (x :: xs)
    | _, _ => none
def liftN (g : List D → Option D) (vs : List VD) (ρ : Rho) : R VD := match resAll vs ρ with
  | some xs => (match g xs with | some d => .ok (.d d) ρ | none => .bad)
  | none => .bad
def opNE (g : List D → Option D) (fa : Rho → R (List VD)) : Rho → R VD := fun ρ => (fa ρ).bind fun vs ρ1 => liftN g vs ρ1
def RpHs (K : PySem.W.Frag) (T : Tb) (S H : Hp) : List D → List V → Prop
  | [], us => us = []
  | d :: ds, us => ∃ u r, us = u :: r ∧ RpH K T S H d u ∧ RpHs K T S H ds r
theorem Ok.resAll {K : PySem.W.Frag} {T : Tb} {β : Bt} {G S H : Hp} {σ : L2.St} {ρ : Rho} (o : Ok K T β G S σ ρ H) : ∀ {vs : List VD} {us : List V} {ds : List D}, RpVs K T σ S vs us → resAll vs ρ = some ds → RpHs K T S H ds us
  | [], us, ds, h, e => by
    simp only [Lq.resAll, Option.some.injEq] at e; subst e; exact h
  | v :: vs, us, ds, ⟨u, r, e1, h, hs⟩, e => by
    simp only [Lq.resAll] at e
    split at e
    · rename_i x xs q1 q2
      cases e
      exact ⟨u, r, e1, o.res h q1, Ok.resAll o hs q2⟩
    · cases e
def Prim1 (K : PySem.W.Frag) (T : Tb) (r : V → Hp → VK → Prop) (g : D → Option D) : Prop := ∀ S H x dx d Q, SameT T S H → RpH K T S H dx x → g dx = some d → Gv K T S H d Q → r x H Q
def Prim2 (K : PySem.W.Frag) (T : Tb) (r : R2) (g : D → D → Option D) : Prop := ∀ S H x y dx dy d Q, SameT T S H → RpH K T S H dx x → RpH K T S H dy y → g dx dy = some d → Gv K T S H d Q → r x y H Q
def PrimN (K : PySem.W.Frag) (T : Tb) (r : List V → Hp → VK → Prop) (g : List D → Option D) : Prop := ∀ S H xs ds d Q, SameT T S H → RpHs K T S H ds xs → g ds = some d → Gv K T S H d Q → r xs H Q
section
variable {K : PySem.W.Frag} {T : Tb} {W : WX} {β : Bt} {G S H : Hp} {σ : L2.St} {ρ : Rho} {Q : VK}
theorem Post.lift1 {g : D → Option D} {r : V → Hp → VK → Prop} {v : VD} {u : V} (hp : Prim1 K T r g) (o : Ok K T β G S σ ρ H) (h : RpV K T σ S v u) (p : Post K T W β G S σ (RpV K T σ) (lift1 g v ρ) Q) : r u H Q := by
  unfold Lq.lift1 at p
  split at p
  · rename_i x e
    split at p
    · rename_i d e2
      exact hp S H u x d Q o.sh (o.res h e) e2 (p.gv o)
    · exact p.elim
  · exact p.elim
theorem Post.lift2 {g : D → D → Option D} {r : R2} {v w : VD} {u z : V} (hp : Prim2 K T r g) (o : Ok K T β G S σ ρ H) (h : RpV K T σ S v u) (h2 : RpV K T σ S w z) (p : Post K T W β G S σ (RpV K T σ) (lift2 g v w ρ) Q) : r u z H Q := by
  unfold Lq.lift2 at p
  split at p
  · rename_i x y e e'
    split at p
    · rename_i d e2
      exact hp S H u z x y d Q o.sh (o.res h e) (o.res h2 e') e2 (p.gv o)
    · exact p.elim
  · exact p.elim
theorem Post.liftN {g : List D → Option D} {r : List V → Hp → VK → Prop} {vs : List VD} {us : List V} (hp : PrimN K T r g) (o : Ok K T β G S σ ρ H) (h : RpVs K T σ S vs us) (p : Post K T W β G S σ (RpV K T σ) (liftN g vs ρ) Q) : r us H Q := by
  unfold Lq.liftN at p
  split at p
  · rename_i xs e
    split at p
    · rename_i d e2
      exact hp S H us xs d Q o.sh (o.resAll h e) e2 (p.gv o)
    · exact p.elim
  · exact p.elim
theorem tOp_of {g : D → D → Option D} {r : R2} {fa fb : Rho → R VD} (hp : Prim2 K T r g) (h : rE K T W (op2E g fa fb) σ H Q) : tOp r (rE K T W fa) (rE K T W fb) σ H Q := by
  obtain ⟨β, G, S, ρ, o, p⟩ := h
  refine ⟨β, G, S, ρ, o, Post.thn (Rl := RpV K T σ) p fun S1 H1 ρ1 v u e1 o1 h1 p1 => ?_⟩
  refine ⟨β, G, S1, ρ1, o1, Post.thn (Rl := RpV K T σ) p1 fun S2 H2 ρ2 w z e2 o2 h2 p2 => ?_⟩
  exact Post.lift2 hp o2 (h1.mono e2) h2 p2
theorem tUn_of {g : D → Option D} {r : V → Hp → VK → Prop} {fa : Rho → R VD} (hp : Prim1 K T r g) (h : rE K T W (op1E g fa) σ H Q) : tUn r (rE K T W fa) σ H Q := by
  obtain ⟨β, G, S, ρ, o, p⟩ := h
  exact ⟨β, G, S, ρ, o, Post.thn (Rl := RpV K T σ) p fun S1 H1 ρ1 v u e1 o1 h1 p1 => Post.lift1 hp o1 h1 p1⟩
theorem tCB_of {g : List D → Option D} {r : List V → Hp → VK → Prop} {fa : Rho → R (List VD)} (hp : PrimN K T r g) (h : rE K T W (opNE g fa) σ H Q) : tCB r (rA K T W fa) σ H Q := by
  obtain ⟨β, G, S, ρ, o, p⟩ := h
  exact ⟨β, G, S, ρ, o, Post.thn (Rl := RpVs K T σ) p fun S1 H1 ρ1 v u e1 o1 h1 p1 => Post.liftN hp o1 h1 p1⟩
end
/-! ### expressions -/
section
variable {X : Cx} {T : Tb} {W : WX} {a b c e : Expr} {es : List Expr} {fa fb fc : Rho → R VD} {fs : Rho → R (List VD)} {ft fu : Rho → R Bool} {pos : Pos}
theorem xe_name (i : Nat) {x : Str} (hN : X.N[i]? = some x := by rfl) (hv : Vis X.env.scope x := by first | exact Or.inl rfl | exact Or.inr (Or.inl rfl) | exact Or.inr (Or.inr rfl)) (hd : (x == ("__debug__" : Str)) = false := by decide)
    (hcd : (x == ("__classdict__" : Str)) = false := by decide) : XE X T W (.Name x pos) (nameE i) := by
  refine (pe_var hN hv hd hcd).impQ fun σ H Q h => ?_
  obtain ⟨β, G, S, ρ, o, p⟩ := h
  unfold nameE at p
  split at p
  · rename_i x q
    obtain ⟨u, e1, r⟩ := o.cel i _ q
    exact ⟨u, e1, p S H u (Same.refl _) o r⟩
  · rename_i x q
    obtain ⟨a, vs, e1, _⟩ := o.cel i _ q
    exact ⟨.ref a, e1, p S H (.ref a) (Same.refl _) o e1⟩
  · rename_i x q
    obtain ⟨a, e1, _⟩ := o.cel i _ q
    exact ⟨.ref a, e1, p S H (.ref a) (Same.refl _) o e1⟩
  · exact p.elim
theorem const_of {K : PySem.W.Frag} {d : D} {v : V} {σ : L2.St} {H : Hp} {Q : VK} (hr : ∀ S, Rp K T S d v) (h : rE K T W (constE d) σ H Q) : Q v H := by
  obtain ⟨β, G, S, ρ, o, p⟩ := h
  exact p S H v (Same.refl _) o (hr S)
theorem xe_int {i : Int} {j : Nat} : XE X T W (.Constant (.int i) j pos) (constE (.int i)) := pe_int.impQ fun _ _ _ h => const_of (K := X.K) (d := .int i) (fun _ => rfl) h
theorem xe_bl {i : Bool} {j : Nat} : XE X T W (.Constant (.bool i) j pos) (constE (.bl i)) := pe_bl.impQ fun _ _ _ h => const_of (K := X.K) (d := .bl i) (fun _ => rfl) h
theorem xe_str {i : Str} {j : Nat} : XE X T W (.Constant (.str i) j pos) (constE (.str i)) := pe_str.impQ fun _ _ _ h => const_of (K := X.K) (d := .str i) (fun _ => rfl) h
theorem xe_non {j : Nat} : XE X T W (.Constant .none j pos) (constE .non) := pe_non.impQ fun _ _ _ h => const_of (K := X.K) (d := .non) (fun _ => rfl) h
/-- a constant of the module -/
theorem xe_glob {x : Str} {d : D} {v : V} {u : Value} (hg : Gl X x) (hm : X.mg x = some u) (r : RelV v u) (hr : ∀ S, Rp X.K T S d v) (hd : (x == ("__debug__" : Str)) = false := by decide) : XE X T W (.Name x pos) (constE d) :=
  (pe_glob hg hm r hd).impQ fun _ _ _ h => const_of hr h
theorem xe_op {op : Operator} {r : R2} {g : D → D → Option D} (ho : OpR X (binaryOp op) r) (hp : Prim2 X.K T r g) (ha : XE X T W a fa) (hb : XE X T W b fb) : XE X T W (.BinOp a op b pos) (op2E g fa fb) :=
  (pe_op ho ha hb).impQ fun _ _ _ h => tOp_of hp h
theorem xe_cmp {op : CmpOp} {r : R2} {g : D → D → Option D} (ho : OpR X (compareOp op) r) (hp : Prim2 X.K T r g) (ha : XE X T W a fa) (hb : XE X T W b fb) (hm : behindInMarks op b = false := by first | exact nomark _ | rfl) : XE X T W (.Compare a [op] [b] pos) (op2E g fa fb) :=
  (pe_cmpR ho ha hb hm).impQ fun _ _ _ h => tOp_of hp h
theorem xe_un {op : UnaryOp} {r : V → Hp → VK → Prop} {g : D → Option D} (ho : UnR X (unaryOp op) r) (hp : Prim1 X.K T r g) (ha : XE X T W a fa) : XE X T W (.UnaryOp op a pos) (op1E g fa) :=
  (pe_un ho ha).impQ fun _ _ _ h => tUn_of hp h
theorem xe_ix {r : R2} {g : D → D → Option D} (ho : IxR X r) (hp : Prim2 X.K T r g) (ha : XE X T W a fa) (hb : XE X T W b fb) (hs : PlainIx b := by exact fun _ _ => rfl) : XE X T W (.Subscript a b pos) (op2E g fa fb) :=
  (pe_ix ho ha hb hs).impQ fun _ _ _ h => tOp_of hp h
/-! ### tests -/
def valT (fa : Rho → R VD) : Rho → R Bool := fun ρ => (fa ρ).bind fun v ρ1 => match v with | .d (.bl k) => .ok k ρ1 | _ => .bad
theorem valT_of {K : PySem.W.Frag} {t : TE} {σ : L2.St} {H : Hp} {Q : Bool → Hp → Prop} (ht : ∀ Q', rE K T W fa σ H Q' → t σ H Q') (h : rT K T W (valT fa) σ H Q) : t σ H fun x H1 => ∃ k, x = .bl k ∧ Q k H1 := by
  obtain ⟨β, G, S, ρ, o, p⟩ := h
  refine ht _ ⟨β, G, S, ρ, o, Post.thn (Rl := RpV K T σ) p fun S1 H1 ρ1 v u e1 o1 h1 p1 => ?_⟩
  split at p1
  · rename_i k
    exact ⟨k, h1, p1 S1 H1 k (Same.refl _) o1 rfl⟩
  · exact p1.elim
theorem xt_cmp {op : CmpOp} {r : R2} {g : D → D → Option D} (ho : OpR X (compareOp op) r) (hp : Prim2 X.K T r g) (ha : XE X T W a fa) (hb : XE X T W b fb) (hm : behindInMarks op b = false := by first | exact nomark _ | rfl) : XT X T W (.Compare a [op] [b] pos) (valT (op2E g fa fb)) :=
  (pt_cmpR ho ha hb hm).impQ fun σ H Q h => valT_of (t := tOp r (rE X.K T W fa) (rE X.K T W fb)) (fun _ q => tOp_of hp q) h
theorem xt_val (he : XE X T W e fa) (hw : ∀ whole, isTrue e X.env whole = (do let v ← whole; standAt e.pos; holding [v] (truthy v)) := by intro _; rfl) : XT X T W e (valT fa) :=
  (pt_val he hw).impQ fun σ H Q h => valT_of (t := rE X.K T W fa) (fun _ q => q) h
def notT (ft : Rho → R Bool) : Rho → R Bool := fun ρ => (ft ρ).bind fun k ρ1 => .ok (!k) ρ1
def andT (ft fu : Rho → R Bool) : Rho → R Bool := fun ρ => (ft ρ).bind fun k ρ1 => if k then fu ρ1 else .ok false ρ1
def orT (ft fu : Rho → R Bool) : Rho → R Bool := fun ρ => (ft ρ).bind fun k ρ1 => if k then .ok true ρ1 else fu ρ1
theorem xt_not (h : XT X T W a ft) : XT X T W (.UnaryOp .Not a pos) (notT ft) := (pt_not h).impQ fun σ H Q h => by
  obtain ⟨β, G, S, ρ, o, p⟩ := h
  exact ⟨β, G, S, ρ, o, Post.thn (Rl := fun _ (b c : Bool) => b = c) p fun S1 H1 ρ1 v u e1 o1 h1 p1 => by subst h1; exact p1 S1 H1 _ (Same.refl _) o1 rfl⟩
def XW (X : Cx) (T : Tb) (W : WX) (e : Expr) (f : Rho → R Bool) : Prop := PW X e (rT X.K T W f)
theorem _root_.L2.PW.impQ {X : Cx} {e : Expr} {t t' : TT} (h : PW X e t) (i : ∀ σ H Q, t' σ H Q → t σ H Q) : PW X e t' := ⟨fun wh pins s σ H Q I w => h.run wh pins s σ H Q I (i σ H Q w)⟩
theorem XW.xt (h : XW X T W e ft) : XT X T W e ft := L2.PW.pt h
theorem xw_and1 (h : XT X T W a ft) : XW X T W (.BoolOp .And [a] pos) ft := pw_and1 h
theorem xw_or1 (h : XT X T W a ft) : XW X T W (.BoolOp .Or [a] pos) ft := pw_or1 h
theorem xw_and (h : XT X T W a ft) (h2 : XW X T W (.BoolOp .And (b :: es) pos) fu) : XW X T W (.BoolOp .And (a :: b :: es) pos) (andT ft fu) := (pw_and h h2).impQ fun σ H Q h => by
  obtain ⟨β, G, S, ρ, o, p⟩ := h
  refine ⟨β, G, S, ρ, o, Post.thn (Rl := fun _ (b c : Bool) => b = c) p fun S1 H1 ρ1 v u e1 o1 h1 p1 => ?_⟩
  subst h1
  cases v with
  | true => exact iteT ⟨β, G, S1, ρ1, o1, p1⟩
  | false => exact iteF (p1 S1 H1 _ (Same.refl _) o1 rfl)
theorem xw_or (h : XT X T W a ft) (h2 : XW X T W (.BoolOp .Or (b :: es) pos) fu) : XW X T W (.BoolOp .Or (a :: b :: es) pos) (orT ft fu) := (pw_or h h2).impQ fun σ H Q h => by
  obtain ⟨β, G, S, ρ, o, p⟩ := h
  refine ⟨β, G, S, ρ, o, Post.thn (Rl := fun _ (b c : Bool) => b = c) p fun S1 H1 ρ1 v u e1 o1 h1 p1 => ?_⟩
  subst h1
  cases v with
  | true => exact iteT (p1 S1 H1 _ (Same.refl _) o1 rfl)
  | false => exact iteF ⟨β, G, S1, ρ1, o1, p1⟩
/-- .. as values: the left one a truth value -/
def andE (fa fb : Rho → R VD) : Rho → R VD := fun ρ => (fa ρ).bind fun v ρ1 => match v with | .d (.bl true) => fb ρ1 | .d (.bl false) => .ok (.d (.bl false)) ρ1 | _ => .bad
def orE (fa fb : Rho → R VD) : Rho → R VD := fun ρ => (fa ρ).bind fun v ρ1 => match v with | .d (.bl true) => .ok (.d (.bl true)) ρ1 | .d (.bl false) => fb ρ1 | _ => .bad
def notE (fa : Rho → R VD) : Rho → R VD := fun ρ => (fa ρ).bind fun v ρ1 => match v with | .d (.bl k) => .ok (.d (.bl (!k))) ρ1 | _ => .bad
theorem xe_one {op : BoolOp} (h : XE X T W a fa) : XE X T W (.BoolOp op [a] pos) fa := pe_one h
theorem xe_and (h : XE X T W a fa) (h2 : XE X T W (.BoolOp .And (b :: es) pos) fb) : XE X T W (.BoolOp .And (a :: b :: es) pos) (andE fa fb) := (pe_and h h2).impQ fun σ H Q h => by
  obtain ⟨β, G, S, ρ, o, p⟩ := h
  refine ⟨β, G, S, ρ, o, Post.thn (Rl := RpV X.K T σ) p fun S1 H1 ρ1 v u e1 o1 h1 p1 => ?_⟩
  split at p1
  · exact ⟨true, h1, iteT ⟨β, G, S1, ρ1, o1, p1⟩⟩
  · exact ⟨false, h1, iteF (p1 S1 H1 (.bl false) (Same.refl _) o1 rfl)⟩
  · exact p1.elim
theorem xe_not (h : XE X T W a fa) : XE X T W (.UnaryOp .Not a pos) (notE fa) := (pe_not h).impQ fun σ H Q h => by
  obtain ⟨β, G, S, ρ, o, p⟩ := h
  refine ⟨β, G, S, ρ, o, Post.thn (Rl := RpV X.K T σ) p fun S1 H1 ρ1 v u e1 o1 h1 p1 => ?_⟩
  split at p1
  · rename_i k
    exact ⟨k, h1, p1 S1 H1 (.bl (!k)) (Same.refl _) o1 rfl⟩
  · exact p1.elim
def ifE (ft : Rho → R Bool) (fa fb : Rho → R VD) : Rho → R VD := fun ρ => (ft ρ).bind fun k ρ1 => if k then fa ρ1 else fb ρ1
theorem xe_if (hc : XT X T W c ft) (ha : XE X T W a fa) (hb : XE X T W b fb) : XE X T W (.IfExp c a b pos) (ifE ft fa fb) := (pe_ifExp hc ha hb).impQ fun σ H Q h => by
  obtain ⟨β, G, S, ρ, o, p⟩ := h
  refine ⟨β, G, S, ρ, o, Post.thn (Rl := fun _ (b c : Bool) => b = c) p fun S1 H1 ρ1 v u e1 o1 h1 p1 => ?_⟩
  subst h1
  cases v with
  | true => exact iteT ⟨β, G, S1, ρ1, o1, p1⟩
  | false => exact iteF ⟨β, G, S1, ρ1, o1, p1⟩
/-! ### arguments -/
def nilA : Rho → R (List VD) := fun ρ => .ok [] ρ
def consA (fa : Rho → R VD) (fs : Rho → R (List VD)) : Rho → R (List VD) := fun ρ => (fa ρ).bind fun v ρ1 => (fs ρ1).bind fun vs ρ2 => .ok (v :: vs) ρ2
theorem xa_nil : XA X T W [] nilA := pa_nil.impQ fun σ H Q h => by
  obtain ⟨β, G, S, ρ, o, p⟩ := h
  exact p S H [] (Same.refl _) o rfl
theorem xa_cons (ha : XE X T W e fa) (hs : XA X T W es fs) (hst : starEach (e :: es) X.env = (false, eval e X.env) :: starEach es X.env := by rfl) : XA X T W (e :: es) (consA fa fs) := (pa_cons ha hs hst).impQ fun σ H Q h => by
  obtain ⟨β, G, S, ρ, o, p⟩ := h
  refine ⟨β, G, S, ρ, o, Post.thn (Rl := RpV X.K T σ) p fun S1 H1 ρ1 v u e1 o1 h1 p1 => ?_⟩
  refine ⟨β, G, S1, ρ1, o1, Post.thn (Rl := RpVs X.K T σ) p1 fun S2 H2 ρ2 vs us e2 o2 h2 p2 => ?_⟩
  exact p2 S2 H2 _ (Same.refl _) o2 ⟨u, us, rfl, h1.mono e2, h2⟩
/-- a built-in by its name, a built-in class -/
theorem xe_callB {id : String} {r : List V → Hp → VK → Prop} {g : List D → Option D} {x : Str} {p : Pos} (hc : CallR X (.builtin id) r) (hp : PrimN X.K T r g) (hm : X.mg x = none) (hv : bootBuiltins x = some (.builtin id)) (ha : XA X T W (e :: es) fs) (hg : Gl X x := by rfl) (hn : x ≠ "__name__" := by decide) (hdb : (x == ("__debug__" : Str)) = false := by decide)
    (he : starEach (e :: es) X.env = (false, eval e X.env) :: starEach es X.env := by rfl) (hpl : (backTo pos (starEach es X.env)).any (·.1) = false := by rfl) : XE X T W (.Call (.Name x p) (e :: es) [] pos) (opNE g fs) :=
  (pe_callB hc hg hm hv ha hn hdb he hpl).impQ fun _ _ _ h => tCB_of hp h
theorem xe_callTy {id : String} {r : List V → Hp → VK → Prop} {g : List D → Option D} {x : Str} {p : Pos} (hc : CallR X (.type id) r) (hp : PrimN X.K T r g) (hm : X.mg x = none) (hv : bootBuiltins x = some (.type id)) (ha : XA X T W (e :: es) fs) (hg : Gl X x := by rfl) (hn : x ≠ "__name__" := by decide) (hdb : (x == ("__debug__" : Str)) = false := by decide)
    (he : starEach (e :: es) X.env = (false, eval e X.env) :: starEach es X.env := by rfl) (hpl : (backTo pos (starEach es X.env)).any (·.1) = false := by rfl) : XE X T W (.Call (.Name x p) (e :: es) [] pos) (opNE g fs) :=
  (pe_callTy hc hg hm hv ha hn hdb he hpl).impQ fun _ _ _ h => tCB_of hp h
end
end Lq
namespace Lq
open PySem PySem.Spec PyProof.Rows L2
section
variable {K : PySem.W.Frag} {T : Tb} {W : WX} {β : Bt} {G S S' H : Hp} {σ : L2.St} {ρ : Rho}
/-- nobody has p -/
structure Fre (β : Bt) (G S : Hp) (σ : L2.St) (ρ : Rho) (p : Addr) : Prop where
  s : S p = none
  g : G p = none
  b : β ≠ .bx p
  sl : ∀ (i : Nat) (xs : List D), ρ[i]? = some (.m xs) → σ[i]? ≠ some (some (.ref p))
  sk : ∀ (i : Nat) (l : List (Key × D)), ρ[i]? = some (.k l) → σ[i]? ≠ some (some (.ref p))
  skt : ∀ (i : Nat) (l : List (List Key × D)), ρ[i]? = some (.kt l) → σ[i]? ≠ some (some (.ref p))
theorem Ok.fre (o : Ok K T β G S σ ρ H) {p : Addr} (h : H p = none) : Fre β G S σ ρ p where
  s := o.sh.free h
  g := o.gh.free h
  b := fun e => by obtain ⟨ns, q, _⟩ := o.bx p e; rw [h] at q; cases q
  sl := fun i xs e q => by
    obtain ⟨a, vs, e1, e2, _⟩ := o.cel i _ e
    rw [e1] at q; cases q; rw [h] at e2; cases e2
  sk := fun i l e q => by
    obtain ⟨a, kvs, e1, e2, _⟩ := o.cel i _ e
    rw [e1] at q; cases q; rw [h] at e2; cases e2
  skt := fun i l e q => by
    obtain ⟨a, kvs, e1, e2, _⟩ := o.cel i _ e
    rw [e1] at q; cases q; rw [h] at e2; cases e2
theorem Fre.ext {H' : Hp} {p : Addr} (f : Fre β G S σ ρ p) (e : S' p = none) : Fre β G S' σ ρ p := ⟨e, f.g, f.b, f.sl, f.sk, f.skt⟩
theorem Ok.freeze (o : Ok K T β G S σ ρ H) {p : Addr} {us : List V} (f : Fre β G S σ ρ p) (h : H p = some (.lst us)) : Ok K T β G (upd S p (.lst us)) σ ρ H where
  sh := o.sh.new1 h
  gh := o.gh
  gs := fun b v q n => by rw [upd_ne (ne_of_none q f.g)]; exact o.gs b v q n
  gb := fun b q => ⟨(o.gb b q).1, by have hb : b ≠ p := fun z => f.b (by rw [q, z]); rw [upd_ne hb]; exact (o.gb b q).2⟩
  bx := o.bx
  len := o.len
  cel := fun i c q => by
    have h1 := o.cel i c q
    cases c with
    | no => trivial
    | d x => obtain ⟨v, e1, r⟩ := h1; exact ⟨v, e1, Rp.mono (same_new f.s) _ _ r⟩
    | m xs =>
      obtain ⟨a, vs, e1, e2, e3, e4, e5, r⟩ := h1
      refine ⟨a, vs, e1, e2, ?_, e4, e5, Rps.mono (same_new f.s) _ _ r⟩
      rw [upd_ne (fun z => f.sl i xs q (by rw [e1, z]))]; exact e3
    | k l =>
      obtain ⟨a, kvs, e1, e2, e3, e4, e5, ek, r⟩ := h1
      exact ⟨a, kvs, e1, e2, by rw [upd_ne (fun z => by rw [z, h] at e2; cases e2)]; exact e3, e4, e5, ek, Rps.mono (same_new f.s) _ _ r⟩
    | kt l =>
      obtain ⟨a, kvs, e1, e2, e3, e4, e5, ek, r⟩ := h1
      exact ⟨a, kvs, e1, e2, by rw [upd_ne (fun z => by rw [z, h] at e2; cases e2)]; exact e3, e4, e5, ek, Rps.mono (same_new f.s) _ _ r⟩
    | b ns => exact h1
    | s t =>
      obtain ⟨a, dx, e1, e2, e3, e4, e5, e6, e7, e8⟩ := h1
      exact ⟨a, dx, e1, e2, e3, e4, by rw [upd_ne (fun z => by rw [z, h] at e4; cases e4)]; exact e5, e6, by rw [upd_ne (fun z => by rw [z, h] at e3; cases e3)]; exact e7, e8⟩
  dis := o.dis
theorem get_set_eq {α : Type} {l : List α} {i : Nat} {x y : α} (h : (l.set i x)[i]? = some y) : y = x := by
  by_cases hi : i < l.length
  · rw [List.getElem?_set_self hi] at h; exact (Option.some.inj h).symm
  · rw [List.getElem?_eq_none (by simpa using hi)] at h; cases h
theorem Ok.lt (o : Ok K T β G S σ ρ H) {i : Nat} {c : Cell} (h : ρ[i]? = some c) : i < σ.length := by
  rw [o.len]; exact (List.getElem?_eq_some_iff.mp h).1
theorem Ok.setD (o : Ok K T β G S σ ρ H) {i : Nat} {x : D} {v : V} (r : Rp K T S x v) : Ok K T β G S (σ.set i (some v)) (ρ.set i (.d x)) H where
  sh := o.sh
  gh := o.gh
  gs := o.gs
  gb := o.gb
  bx := o.bx
  len := by rw [List.length_set, List.length_set]; exact o.len
  cel := fun j c q => by
    by_cases hj : j = i
    · subst hj
      have hl : j < ρ.length := by have := (List.getElem?_eq_some_iff.mp q).1; rwa [List.length_set] at this
      have e := get_set_eq q
      subst e
      exact ⟨v, List.getElem?_set_self (by rw [o.len]; exact hl), r⟩
    · rw [List.getElem?_set_ne (Ne.symm hj)] at q ⊢
      exact o.cel j c q
  dis := fun j k xs ys q1 q2 e => by
    have h1 : j ≠ i := fun z => by subst z; cases get_set_eq q1
    have h2 : k ≠ i := fun z => by subst z; cases get_set_eq q2
    rw [List.getElem?_set_ne (Ne.symm h1)] at q1 e
    rw [List.getElem?_set_ne (Ne.symm h2)] at q2 e
    exact o.dis j k xs ys q1 q2 e
theorem Ok.setN (o : Ok K T β G S σ ρ H) {i : Nat} {v : Option V} : Ok K T β G S (σ.set i v) (ρ.set i .no) H where
  sh := o.sh
  gh := o.gh
  gs := o.gs
  gb := o.gb
  bx := o.bx
  len := by rw [List.length_set, List.length_set]; exact o.len
  cel := fun j c q => by
    by_cases hj : j = i
    · subst hj
      have e := get_set_eq q
      subst e
      trivial
    · rw [List.getElem?_set_ne (Ne.symm hj)] at q ⊢
      exact o.cel j c q
  dis := fun j k xs ys q1 q2 e => by
    have h1 : j ≠ i := fun z => by subst z; cases get_set_eq q1
    have h2 : k ≠ i := fun z => by subst z; cases get_set_eq q2
    rw [List.getElem?_set_ne (Ne.symm h1)] at q1 e
    rw [List.getElem?_set_ne (Ne.symm h2)] at q2 e
    exact o.dis j k xs ys q1 q2 e
theorem Ok.setM (o : Ok K T β G S σ ρ H) {i : Nat} {p : Addr} {xs : List D} {vs : List V} (f : Fre β G S σ ρ p) (h : H p = some (.lst vs)) (r : Rps K T S xs vs) : Ok K T β G S (σ.set i (some (.ref p))) (ρ.set i (.m xs)) H where
  sh := o.sh
  gh := o.gh
  gs := o.gs
  gb := o.gb
  bx := o.bx
  len := by rw [List.length_set, List.length_set]; exact o.len
  cel := fun j c q => by
    by_cases hj : j = i
    · subst hj
      have hl : j < ρ.length := by have := (List.getElem?_eq_some_iff.mp q).1; rwa [List.length_set] at this
      have e := get_set_eq q
      subst e
      exact ⟨p, vs, List.getElem?_set_self (by rw [o.len]; exact hl), h, f.s, f.g, f.b, r⟩
    · rw [List.getElem?_set_ne (Ne.symm hj)] at q ⊢
      exact o.cel j c q
  dis := fun j k ys zs q1 q2 e => by
    by_cases h1 : j = i
    · by_cases h2 : k = i
      · rw [h1, h2]
      · exfalso
        subst h1
        have hl : j < σ.length := by have := (List.getElem?_eq_some_iff.mp q1).1; rw [List.length_set] at this; rw [o.len]; exact this
        rw [List.getElem?_set_ne (Ne.symm h2)] at q2 e
        rw [List.getElem?_set_self hl] at e
        exact f.sl k zs q2 e.symm
    · by_cases h2 : k = i
      · exfalso
        subst h2
        have hl : k < σ.length := by have := (List.getElem?_eq_some_iff.mp q2).1; rw [List.length_set] at this; rw [o.len]; exact this
        rw [List.getElem?_set_ne (Ne.symm h1)] at q1 e
        rw [List.getElem?_set_self hl] at e
        exact f.sl j ys q1 e
      · rw [List.getElem?_set_ne (Ne.symm h1)] at q1 e
        rw [List.getElem?_set_ne (Ne.symm h2)] at q2 e
        exact o.dis j k ys zs q1 q2 e
/-! ### a new list -/
def PostF (K : PySem.W.Frag) (T : Tb) (W : WX) (β : Bt) (G S : Hp) (σ : L2.St) (r : R (List D)) (Q : VK) : Prop := match r with
  | .ok ds ρ' => ∀ S' H' p vs, Same S S' → Ok K T β G S' σ ρ' H' → Fre β G S' σ ρ' p → H' p = some (.lst vs) → Rps K T S' ds vs → Q (.ref p) H'
  | .err x ρ' => ∀ S' H' c d, Same S S' → Ok K T β G S' σ ρ' H' → XR K T S' x c d → W c d σ H'
  | .bad => False
def rF (K : PySem.W.Frag) (T : Tb) (W : WX) (f : Rho → R (List D)) : TE := fun σ H Q => ∃ β G S ρ, Ok K T β G S σ ρ H ∧ PostF K T W β G S σ (f ρ) Q
def XF (X : Cx) (T : Tb) (W : WX) (e : Expr) (f : Rho → R (List D)) : Prop := PE X e (rF X.K T W f)
theorem PostF.mono {r : R (List D)} {Q : VK} (h : PostF K T W β G S σ r Q) (e : Same S S') : PostF K T W β G S' σ r Q := by
  cases r with
  | ok a ρ' => exact fun S2 H2 p vs e2 o => h S2 H2 p vs (e.trans e2) o
  | err x ρ' => exact fun S2 H2 c d e2 o => h S2 H2 c d (e.trans e2) o
  | bad => exact h
theorem PostF.thn {α γ : Type} {Rl : Hp → α → γ → Prop} {r : R α} {k : α → Rho → R (List D)} {Q : VK} {Q' : γ → Hp → Prop} (h : PostF K T W β G S σ (r.bind k) Q)
    (f : ∀ S1 H1 ρ1 a u, Same S S1 → Ok K T β G S1 σ ρ1 H1 → Rl S1 a u → PostF K T W β G S1 σ (k a ρ1) Q → Q' u H1) : Post K T W β G S σ Rl r Q' := by
  cases r with
  | ok a ρ' => exact fun S1 H1 u e o q => f S1 H1 ρ' a u e o q (PostF.mono h e)
  | err x ρ' => exact h
  | bad => exact h.elim
theorem PostF.gf {ds : List D} {Q : VK} (h : PostF K T W β G S σ (.ok ds ρ) Q) (o : Ok K T β G S σ ρ H) : Gf K T S H ds Q :=
  fun S' H' p vs e hp sp hv r => h S' H' p vs e.s (o.ext e) ((o.fre hp).ext (H' := H') sp) hv r
def frzE (f : Rho → R (List D)) : Rho → R VD := fun ρ => (f ρ).bind fun ds ρ1 => .ok (.d (.lst ds)) ρ1
theorem XF.xe {X : Cx} {e : Expr} {f : Rho → R (List D)} (h : XF X T W e f) : XE X T W e (frzE f) := L2.PE.impQ h fun σ H Q h => by
  obtain ⟨β, G, S, ρ, o, p⟩ := h
  refine ⟨β, G, S, ρ, o, ?_⟩
  unfold frzE at p
  revert p
  cases f ρ with
  | ok ds ρ1 => exact fun p S' H' q vs e o' fr hv r => p (upd S' q (.lst vs)) H' (.ref q) (e.trans (same_new fr.s)) (o'.freeze fr hv) ⟨q, vs, rfl, upd_same, Rps.mono (same_new fr.s) _ _ r⟩
  | err x ρ1 => exact fun p => p
  | bad => exact fun p => p
/-- data of all the values: no slot's own list among them -/
def datAll : List VD → Option (List D)
  | [] => some []
  | .d x :: vs => (match datAll vs with | some xs => some (x :: xs) | none => none)
  | .sl _ :: _ => none
theorem datAll_rps : ∀ {vs : List VD} {us : List V} {ds : List D}, datAll vs = some ds → RpVs K T σ S vs us → Rps K T S ds us
  | [], _, _, e, h => by simp only [datAll, Option.some.injEq] at e; subst e; exact h
  | .d x :: vs, _, _, e, ⟨u, r, e1, h, hs⟩ => by
    simp only [datAll] at e
    split at e
    · rename_i xs q; cases e; exact ⟨u, r, e1, h, datAll_rps q hs⟩
    · cases e
  | .sl _ :: _, _, _, e, _ => by simp only [datAll] at e; cases e
def fits (n : Nat) : Bool := decide (n ≤ 1000000)
theorem fits_line {n : Nat} (h : fits n = true) : n ≤ sizeLine := Nat.le_trans (of_decide_eq_true h) (by rw [sizeLine_eq]; decide)
def lstF (fs : Rho → R (List VD)) : Rho → R (List D) := fun ρ => (fs ρ).bind fun vs ρ1 => match datAll vs with | some ds => if fits ds.length then .ok ds ρ1 else .bad | none => .bad
def tupE (fs : Rho → R (List VD)) : Rho → R VD := fun ρ => (fs ρ).bind fun vs ρ1 => match datAll vs with | some ds => if fits ds.length then .ok (.d (.tup ds)) ρ1 else .bad | none => .bad
theorem xf_lst {X : Cx} {es : List Expr} {pos : Pos} {fs : Rho → R (List VD)} (h : XA X T W es fs) : XF X T W (.List es pos) (lstF fs) := (pe_lst h).impQ fun σ H Q h => by
  obtain ⟨β, G, S, ρ, o, p⟩ := h
  refine ⟨β, G, S, ρ, o, PostF.thn (Rl := RpVs X.K T σ) p fun S1 H1 ρ1 vs us e1 o1 h1 p1 => ?_⟩
  split at p1
  · rename_i ds q
    split at p1
    · rename_i hf
      have r := datAll_rps q h1
      exact ⟨by rw [r.len]; exact fits_line hf, fun a ha => (p1.gf o1).new o1.sh r a ha⟩
    · exact p1.elim
  · exact p1.elim
theorem xe_tup {X : Cx} {es : List Expr} {pos : Pos} {k : Nat} {fs : Rho → R (List VD)} (h : XA X T W es fs) : XE X T W (.Tuple es k pos) (tupE fs) := (pe_tup h).impQ fun σ H Q h => by
  obtain ⟨β, G, S, ρ, o, p⟩ := h
  refine ⟨β, G, S, ρ, o, Post.thn (Rl := RpVs X.K T σ) p fun S1 H1 ρ1 vs us e1 o1 h1 p1 => ?_⟩
  split at p1
  · rename_i ds q
    split at p1
    · rename_i hf
      have r := datAll_rps q h1
      exact ⟨by rw [r.len]; exact fits_line hf, fun a ha => (p1.gv o1).newT o1.sh r a ha⟩
    · exact p1.elim
  · exact p1.elim
/-- operations that make a new list -/
def PrimNF (K : PySem.W.Frag) (T : Tb) (r : List V → Hp → VK → Prop) (g : List D → Option (List D)) : Prop := ∀ S H xs ds d Q, SameT T S H → RpHs K T S H ds xs → g ds = some d → Gf K T S H d Q → r xs H Q
def opNF (g : List D → Option (List D)) (fs : Rho → R (List VD)) : Rho → R (List D) := fun ρ => (fs ρ).bind fun vs ρ1 => match resAll vs ρ1 with | some xs => (match g xs with | some d => .ok d ρ1 | none => .bad) | none => .bad
def op2F (g : D → D → Option (List D)) (fa fb : Rho → R VD) : Rho → R (List D) := fun ρ => (fa ρ).bind fun v ρ1 => (fb ρ1).bind fun w ρ2 => match res v ρ2, res w ρ2 with | some x, some y => (match g x y with | some d => .ok d ρ2 | none => .bad) | _, _ => .bad
theorem tCBF_of {g : List D → Option (List D)} {r : List V → Hp → VK → Prop} {fa : Rho → R (List VD)} {Q : VK} (hp : PrimNF K T r g) (h : rF K T W (opNF g fa) σ H Q) : tCB r (rA K T W fa) σ H Q := by
  obtain ⟨β, G, S, ρ, o, p⟩ := h
  refine ⟨β, G, S, ρ, o, PostF.thn (Rl := RpVs K T σ) p fun S1 H1 ρ1 v u e1 o1 h1 p1 => ?_⟩
  split at p1
  · rename_i xs e
    split at p1
    · rename_i d e2
      exact hp S1 H1 u xs d Q o1.sh (o1.resAll h1 e) e2 (p1.gf o1)
    · exact p1.elim
  · exact p1.elim
end
section
variable {X : Cx} {T : Tb} {W : WX} {a b c e : Expr} {es : List Expr} {fa fb fc : Rho → R VD} {fs : Rho → R (List VD)} {ft fu : Rho → R Bool} {pos : Pos}
theorem xf_callTy {id : String} {r : List V → Hp → VK → Prop} {g : List D → Option (List D)} {x : Str} {p : Pos} (hc : CallR X (.type id) r) (hp : PrimNF X.K T r g) (hm : X.mg x = none) (hv : bootBuiltins x = some (.type id)) (ha : XA X T W (e :: es) fs) (hg : L2.Gl X x := by rfl) (hn : x ≠ "__name__" := by decide) (hdb : (x == ("__debug__" : Str)) = false := by decide)
    (he : starEach (e :: es) X.env = (false, eval e X.env) :: starEach es X.env := by rfl) (hpl : (backTo pos (starEach es X.env)).any (·.1) = false := by rfl) : XF X T W (.Call (.Name x p) (e :: es) [] pos) (opNF g fs) :=
  (pe_callTy hc hg hm hv ha hn hdb he hpl).impQ fun _ _ _ h => tCBF_of hp h
end
end Lq
namespace Lq
open PySem PySem.Spec PyProof.Rows L2
/-! ### statements -/
inductive O where
  | nx (r : Rho)
  | rt (v : VD) (r : Rho)
  | rf (ds : List D) (r : Rho)
  | bk (r : Rho)
  | ct (r : Rho)
  | err (x : Xn) (r : Rho)
  | bad
def PostS (K : PySem.W.Frag) (T : Tb) (W : WX) (β : Bt) (G S : Hp) (r : O) (D : Ends) : Prop := match r with
  | .nx ρ' => ∀ S' σ' H', Same S S' → Ok K T β G S' σ' ρ' H' → D.nx σ' H'
  | .bk ρ' => ∀ S' σ' H', Same S S' → Ok K T β G S' σ' ρ' H' → D.bk σ' H'
  | .ct ρ' => ∀ S' σ' H', Same S S' → Ok K T β G S' σ' ρ' H' → D.ct σ' H'
  | .rt v ρ' => ∀ S' σ' H' u, Same S S' → Ok K T β G S' σ' ρ' H' → RpV K T σ' S' v u → D.rt u H'
  | .rf ds ρ' => ∀ S' σ' H' p vs, Same S S' → Ok K T β G S' σ' ρ' H' → Fre β G S' σ' ρ' p → H' p = some (.lst vs) → Rps K T S' ds vs → D.rt (.ref p) H'
  | .err x ρ' => ∀ S' σ' H' c d, Same S S' → Ok K T β G S' σ' ρ' H' → XR K T S' x c d → W c d σ' H'
  | .bad => False
def rS (K : PySem.W.Frag) (T : Tb) (W : WX) (f : Rho → O) : TS := fun D σ H => ∃ β G S ρ, Ok K T β G S σ ρ H ∧ PostS K T W β G S (f ρ) D
def XS (X : Cx) (T : Tb) (W : WX) (st : Stmt) (f : Rho → O) : Prop := PS X st (rS X.K T W f)
def XB (X : Cx) (T : Tb) (W : WX) (st : List Stmt) (f : Rho → O) : Prop := PSs X st (rS X.K T W f)
def R.thnO {α : Type} (r : R α) (k : α → Rho → O) : O := match r with
  | .ok a q => k a q
  | .err x q => .err x q
  | .bad => .bad
section
variable {K : PySem.W.Frag} {T : Tb} {W : WX} {β : Bt} {G S S' H : Hp} {σ : L2.St} {ρ : Rho} {De : Ends}
theorem PostS.mono {r : O} (h : PostS K T W β G S r De) (e : Same S S') : PostS K T W β G S' r De := by
  cases r with
  | nx ρ' => exact fun S2 s2 H2 e2 o => h S2 s2 H2 (e.trans e2) o
  | bk ρ' => exact fun S2 s2 H2 e2 o => h S2 s2 H2 (e.trans e2) o
  | ct ρ' => exact fun S2 s2 H2 e2 o => h S2 s2 H2 (e.trans e2) o
  | rt v ρ' => exact fun S2 s2 H2 u e2 o => h S2 s2 H2 u (e.trans e2) o
  | rf ds ρ' => exact fun S2 s2 H2 p vs e2 o => h S2 s2 H2 p vs (e.trans e2) o
  | err x ρ' => exact fun S2 s2 H2 c d e2 o => h S2 s2 H2 c d (e.trans e2) o
  | bad => exact h
theorem PostS.thn {α γ : Type} {Rl : Hp → α → γ → Prop} {r : R α} {k : α → Rho → O} {Q' : γ → Hp → Prop} (h : PostS K T W β G S (r.thnO k) De)
    (f : ∀ S1 H1 ρ1 a u, Same S S1 → Ok K T β G S1 σ ρ1 H1 → Rl S1 a u → PostS K T W β G S1 (k a ρ1) De → Q' u H1) : Post K T W β G S σ Rl r Q' := by
  cases r with
  | ok a ρ' => exact fun S1 H1 u e o q => f S1 H1 ρ' a u e o q (PostS.mono h e)
  | err x ρ' => exact fun S1 H1 c d e o q => h S1 σ H1 c d e o q
  | bad => exact h.elim
theorem PostS.thnF {r : R (List D)} {k : List D → Rho → O} {Q' : VK} (h : PostS K T W β G S (r.thnO k) De)
    (f : ∀ S1 H1 ρ1 ds p vs, Same S S1 → Ok K T β G S1 σ ρ1 H1 → Fre β G S1 σ ρ1 p → H1 p = some (.lst vs) → Rps K T S1 ds vs → PostS K T W β G S1 (k ds ρ1) De → Q' (.ref p) H1) : PostF K T W β G S σ r Q' := by
  cases r with
  | ok a ρ' => exact fun S1 H1 p vs e o fr hv q => f S1 H1 ρ' a p vs e o fr hv q (PostS.mono h e)
  | err x ρ' => exact fun S1 H1 c d e o q => h S1 σ H1 c d e o q
  | bad => exact h.elim
end
section
variable {X : Cx} {T : Tb} {W : WX} {a b c e : Expr} {es : List Expr} {fa fb fc : Rho → R VD} {fs : Rho → R (List VD)} {ft fu : Rho → R Bool} {pos : Pos} {st : Stmt} {sts : List Stmt} {g h : Rho → O}
def nextS : Rho → O := fun ρ => .nx ρ
def seqS (g h : Rho → O) : Rho → O := fun ρ => match g ρ with | .nx ρ1 => h ρ1 | r => r
theorem xb_nil : XB X T W [] nextS := pss_nil.impQ fun De σ H q => by
  obtain ⟨β, G, S, ρ, o, p⟩ := q
  exact p S σ H (Same.refl _) o
theorem xb_one (h1 : XS X T W st g) : XB X T W [st] g := pss_one h1
theorem xb_cons (h1 : XS X T W st g) (h2 : XB X T W sts h) : XB X T W (st :: sts) (seqS g h) := (pss_cons h1 h2).impQ fun De σ H q => by
  obtain ⟨β, G, S, ρ, o, p⟩ := q
  refine ⟨β, G, S, ρ, o, ?_⟩
  unfold seqS at p
  revert p
  cases g ρ with
  | nx ρ1 => exact fun p S1 σ1 H1 e o1 => ⟨β, G, S1, ρ1, o1, p.mono e⟩
  | rt v ρ1 => exact fun p => p
  | rf ds ρ1 => exact fun p => p
  | bk ρ1 => exact fun p => p
  | ct ρ1 => exact fun p => p
  | err x ρ1 => exact fun p => p
  | bad => exact fun p => p
def retS (fa : Rho → R VD) : Rho → O := fun ρ => (fa ρ).thnO fun v ρ1 => .rt v ρ1
theorem xs_ret (he : XE X T W e fa) : XS X T W (.Return (some e) pos) (retS fa) := (ps_ret he).impQ fun De σ H q => by
  obtain ⟨β, G, S, ρ, o, p⟩ := q
  exact ⟨β, G, S, ρ, o, PostS.thn (Rl := RpV X.K T σ) p fun S1 H1 ρ1 v u e1 o1 h1 p1 => p1 S1 σ H1 u (Same.refl _) o1 h1⟩
def retF (f : Rho → R (List D)) : Rho → O := fun ρ => (f ρ).thnO fun ds ρ1 => .rf ds ρ1
theorem xs_retF {f : Rho → R (List D)} (he : XF X T W e f) : XS X T W (.Return (some e) pos) (retF f) := (ps_ret he).impQ fun De σ H q => by
  obtain ⟨β, G, S, ρ, o, p⟩ := q
  exact ⟨β, G, S, ρ, o, PostS.thnF p fun S1 H1 ρ1 ds a vs e1 o1 fr hv h1 p1 => p1 S1 σ H1 a vs (Same.refl _) o1 fr hv h1⟩
def dropS (fa : Rho → R VD) : Rho → O := fun ρ => (fa ρ).thnO fun _ ρ1 => .nx ρ1
theorem xs_expr (he : XE X T W e fa) (hs : swapsWith e none pos.line X.env = pure false := by rfl) : XS X T W (.Expr e pos) (dropS fa) := (ps_expr he hs).impQ fun De σ H q => by
  obtain ⟨β, G, S, ρ, o, p⟩ := q
  exact ⟨β, G, S, ρ, o, PostS.thn (Rl := RpV X.K T σ) p fun S1 H1 ρ1 v u e1 o1 h1 p1 => p1 S1 σ H1 (Same.refl _) o1⟩
def ifS (ft : Rho → R Bool) (g h : Rho → O) : Rho → O := fun ρ => (ft ρ).thnO fun k ρ1 => if k then g ρ1 else h ρ1
theorem xs_if {as bs : List Stmt} (hc : XT X T W c ft) (ha : XB X T W as g) (hb : XB X T W bs h) : XS X T W (.If c as bs pos) (ifS ft g h) := (ps_if hc ha hb).impQ fun De σ H q => by
  obtain ⟨β, G, S, ρ, o, p⟩ := q
  refine ⟨β, G, S, ρ, o, PostS.thn (Rl := fun _ (b c : Bool) => b = c) p fun S1 H1 ρ1 v u e1 o1 h1 p1 => ?_⟩
  subst h1
  cases v with
  | true => exact iteT ⟨β, G, S1, ρ1, o1, p1⟩
  | false => exact iteF ⟨β, G, S1, ρ1, o1, p1⟩
/-- x = e: data; a new list of its own -/
def asgS (i : Nat) (fa : Rho → R VD) : Rho → O := fun ρ => (fa ρ).thnO fun v ρ1 => match v with | .d x => .nx (ρ1.set i (.d x)) | .sl _ => .bad
def asgM (i : Nat) (f : Rho → R (List D)) : Rho → O := fun ρ => (f ρ).thnO fun ds ρ1 => .nx (ρ1.set i (.m ds))
theorem xs_set (i : Nat) {x : Str} {pos' : Pos} (hN : X.N.Nodup) (he : XE X T W e fa) (hi : X.N[i]? = some x := by rfl) (hx : Loc X.env.scope x := by first | exact Or.inl rfl | exact Or.inr rfl) (hs : swapsWith e (some (.Name x pos')) pos.line X.env = pure false := by rfl)
    (hf : X.fn x = true ∨ X.env.scope.names.lookup x = some .local := by first | exact .inl rfl | exact .inr rfl) : XS X T W (.Assign [.Name x pos'] e pos) (asgS i fa) := (ps_set hN hi hx he hs hf).impQ fun De σ H q => by
  obtain ⟨β, G, S, ρ, o, p⟩ := q
  refine ⟨β, G, S, ρ, o, PostS.thn (Rl := RpV X.K T σ) p fun S1 H1 ρ1 v u e1 o1 h1 p1 => ?_⟩
  split at p1
  · exact p1 S1 _ H1 (Same.refl _) (o1.setD h1)
  · exact p1.elim
theorem xs_setM (i : Nat) {x : Str} {pos' : Pos} {f : Rho → R (List D)} (hN : X.N.Nodup) (he : XF X T W e f) (hi : X.N[i]? = some x := by rfl) (hx : Loc X.env.scope x := by first | exact Or.inl rfl | exact Or.inr rfl) (hs : swapsWith e (some (.Name x pos')) pos.line X.env = pure false := by rfl)
    (hf : X.fn x = true ∨ X.env.scope.names.lookup x = some .local := by first | exact .inl rfl | exact .inr rfl) : XS X T W (.Assign [.Name x pos'] e pos) (asgM i f) := (ps_set hN hi hx he hs hf).impQ fun De σ H q => by
  obtain ⟨β, G, S, ρ, o, p⟩ := q
  exact ⟨β, G, S, ρ, o, PostS.thnF p fun S1 H1 ρ1 ds a vs e1 o1 fr hv h1 p1 => p1 S1 _ H1 (Same.refl _) (o1.setM fr hv h1)⟩
/-! ### targets -/
/-- what a target does with data -/
def rGt (K : PySem.W.Frag) (T : Tb) (gd : D → Rho → Option Rho) : TG := fun v σ H Q => ∃ β G S ρ x, Ok K T β G S σ ρ H ∧ Rp K T S x v ∧ match gd x ρ with
  | some ρ' => ∀ σ', Ok K T β G S σ' ρ' H → Q σ' H
  | none => False
def XG (X : Cx) (T : Tb) (tg : Expr) (gd : D → Rho → Option Rho) : Prop := PG X tg (rGt X.K T gd)
def nameG (i : Nat) : D → Rho → Option Rho := fun x ρ => some (ρ.set i (.d x))
theorem _root_.L2.PG.impQ {X : Cx} {e : Expr} {t t' : TG} (h : PG X e t) (i : ∀ v σ H Q, t' v σ H Q → t v σ H Q) : PG X e t' := ⟨fun pins s σ H v u Q I r w => h.run pins s σ H v u Q I r (i v σ H Q w)⟩
theorem _root_.L2.PGs.impQ {X : Cx} {e : List Expr} {t t' : TGs} (h : PGs X e t) (i : ∀ v σ H Q, t' v σ H Q → t v σ H Q) : PGs X e t' := ⟨fun pins s σ H v u Q I r w => h.run pins s σ H v u Q I r (i v σ H Q w)⟩
theorem xg_name (i : Nat) {x : Str} (hN : X.N.Nodup) (hi : X.N[i]? = some x := by rfl) (hx : Loc X.env.scope x := by first | exact Or.inl rfl | exact Or.inr rfl) (hf : X.fn x = true ∨ X.env.scope.names.lookup x = some .local := by first | exact .inl rfl | exact .inr rfl) : XG X T (.Name x pos) (nameG i) :=
  (pg_name hN hi hx hf).impQ fun v σ H Q q => by
    obtain ⟨β, G, S, ρ, x, o, r, p⟩ := q
    exact p _ (o.setD r)
def rGts (K : PySem.W.Frag) (T : Tb) (gd : List D → Rho → Option Rho) : TGs := fun vs σ H Q => ∃ β G S ρ xs, Ok K T β G S σ ρ H ∧ Rps K T S xs vs ∧ match gd xs ρ with
  | some ρ' => ∀ σ', Ok K T β G S σ' ρ' H → Q σ' H
  | none => False
def XGs (X : Cx) (T : Tb) (tg : List Expr) (gd : List D → Rho → Option Rho) : Prop := PGs X tg (rGts X.K T gd)
def nilG : List D → Rho → Option Rho := fun xs ρ => match xs with | [] => some ρ | _ => none
def consG (g : D → Rho → Option Rho) (gs : List D → Rho → Option Rho) : List D → Rho → Option Rho := fun xs ρ => match xs with
  | x :: r => (match g x ρ with | some ρ1 => gs r ρ1 | none => none)
  | [] => none
theorem xgs_nil : XGs X T [] nilG := pgs_nil.impQ fun vs σ H Q q => by
  obtain ⟨β, G, S, ρ, xs, o, r, p⟩ := q
  unfold nilG at p
  split at p
  · rename_i ρ' e
    split at e
    · cases e; exact ⟨r, p σ o⟩
    · cases e
  · exact p.elim
theorem xgs_cons {gd : D → Rho → Option Rho} {gds : List D → Rho → Option Rho} (h1 : XG X T e gd) (h2 : XGs X T es gds) (hs : (assignEach (e :: es) X.env).map (·.2) = assign e X.env :: (assignEach es X.env).map (·.2) := by rfl) : XGs X T (e :: es) (consG gd gds) :=
  (pgs_cons h1 h2 hs).impQ fun vs σ H Q q => by
    obtain ⟨β, G, S, ρ, xs, o, r, p⟩ := q
    unfold consG at p
    cases xs with
    | nil => exact p.elim
    | cons x xr =>
      obtain ⟨v, vr, e1, rx, rr⟩ := r
      refine ⟨v, vr, e1, β, G, S, ρ, x, o, rx, ?_⟩
      dsimp only at p
      cases q1 : gd x ρ with
      | none => rw [q1] at p; exact p.elim
      | some ρ1 =>
        rw [q1] at p
        dsimp only at p ⊢
        exact fun σ1 o1 => ⟨β, G, S, ρ1, xr, o1, rr, p⟩
def tupG (n : Nat) (gs : List D → Rho → Option Rho) : D → Rho → Option Rho := fun x ρ => match x with
  | .tup xs => if xs.length = n then gs xs ρ else none
  | .lst xs => if xs.length = n then gs xs ρ else none
  | _ => none
theorem _root_.L2.PG.orQ {X : Cx} {e : Expr} {t t' : TG} (h : PG X e t) (h' : PG X e t') : PG X e (fun v σ H Q => t v σ H Q ∨ t' v σ H Q) := ⟨fun pins s σ H v u Q I r w => by
  rcases w with w | w
  · exact h.run pins s σ H v u Q I r w
  · exact h'.run pins s σ H v u Q I r w⟩
theorem xg_tup {k n : Nat} {gds : List D → Rho → Option Rho} (hc : X.calm = true) (h : XGs X T es gds) (hn : (assignEach es X.env).length = n := by rfl) (hst : (assignEach es X.env).findIdx? (·.1) = none := by rfl) : XG X T (.Tuple es k pos) (tupG n gds) :=
  ((pg_tup hc h hn hst).orQ (pg_unl hc h hn hst)).impQ fun v σ H Q q => by
    obtain ⟨β, G, S, ρ, x, o, r, p⟩ := q
    unfold tupG at p
    cases x with
    | tup xs =>
      obtain ⟨a, vs, e1, q, rr⟩ := r
      dsimp only at p
      by_cases hl : xs.length = n
      · rw [if_pos hl] at p
        exact .inl ⟨a, vs, e1, same_tup o.sh q, rr.len.trans hl, β, G, S, ρ, xs, o, rr, p⟩
      · rw [if_neg hl] at p; exact p.elim
    | lst xs =>
      obtain ⟨a, vs, e1, q, rr⟩ := r
      dsimp only at p
      by_cases hl : xs.length = n
      · rw [if_pos hl] at p
        exact .inr ⟨a, vs, e1, SqL.of (o.sh _ _ q), rr.len.trans hl, β, G, S, ρ, xs, o, rr, p⟩
      · rw [if_neg hl] at p; exact p.elim
    | _ => exact p.elim
/-- target = e -/
def asgG (gd : D → Rho → Option Rho) (fa : Rho → R VD) : Rho → O := fun ρ => (fa ρ).thnO fun v ρ1 => match v with
  | .d x => (match gd x ρ1 with | some ρ2 => .nx ρ2 | none => .bad)
  | .sl _ => .bad
/-! ### what is walked -/
def Wk (K : PySem.W.Frag) (T : Tb) (S : Hp) (ds : List D) (J : It) : Prop := ∀ S1 H1, Same S S1 → SameT T S1 H1 → ∀ i : Nat,
  (∀ d, ds[i]? = some d → J.go i H1 ∧ ∀ x H2, J.yld i H1 x H2 → ∃ S2, Ext T S1 H1 S2 H2 ∧ Rp K T S2 d x) ∧ (i = ds.length → J.stop i H1)
def PostI (K : PySem.W.Frag) (T : Tb) (W : WX) (β : Bt) (G S : Hp) (σ : L2.St) (r : R (List D)) (Q : It → Hp → Prop) : Prop := match r with
  | .ok ds ρ' => ∀ S' H' J, Same S S' → Ok K T β G S' σ ρ' H' → Wk K T S' ds J → Q J H'
  | .err x ρ' => ∀ S' H' c d, Same S S' → Ok K T β G S' σ ρ' H' → XR K T S' x c d → W c d σ H'
  | .bad => False
def rI (K : PySem.W.Frag) (T : Tb) (W : WX) (f : Rho → R (List D)) : TI := fun σ H Q => ∃ β G S ρ, Ok K T β G S σ ρ H ∧ PostI K T W β G S σ (f ρ) Q
def XI (X : Cx) (T : Tb) (W : WX) (tg e : Expr) (f : Rho → R (List D)) : Prop := PI X tg e (rI X.K T W f)
def loopS (body : D → Rho → O) : List D → Rho → O
  | [], ρ => .nx ρ
  | d :: ds, ρ => match body d ρ with
    | .nx ρ1 => loopS body ds ρ1
    | .ct ρ1 => loopS body ds ρ1
    | .bk ρ1 => .nx ρ1
    | r => r
def turnS (gd : D → Rho → Option Rho) (g : Rho → O) : D → Rho → O := fun d ρ => match gd d ρ with
  | some ρ1 => g ρ1
  | none => .bad
def forS (f : Rho → R (List D)) (gd : D → Rho → Option Rho) (g : Rho → O) : Rho → O := fun ρ => (f ρ).thnO fun ds ρ1 => loopS (turnS gd g) ds ρ1
theorem xs_for {tg iter : Expr} {f : Rho → R (List D)} {gd : D → Rho → Option Rho} {body : List Stmt} (hp : PassesOwn (model X.prog X.w) X.A X.env X.xe) (hc : X.calm = true) (hi : XI X T W tg iter f) (hg : XG X T tg gd) (hb : XB X T W body g)
    (hs : ∀ x, foldedSetIterable iter X.env x = pure x := by intro _; rfl) : XS X T W (.For tg iter body [] pos) (forS f gd g) := (ps_for hp hc hi hg hb hs).impQ fun De σ H q => by
  obtain ⟨β, G, S, ρ, o, p⟩ := q
  refine ⟨β, G, S, ρ, o, ?_⟩
  unfold forS at p
  revert p
  cases f ρ with
  | bad => exact fun p => p
  | err x ρ1 => exact fun p S1 H1 c d e o q => p S1 σ H1 c d e o q
  | ok ds ρ1 =>
    intro p S1 H1 J e1 o1 wk
    refine ⟨fun i m σ' H' => m = ds.length - i ∧ i ≤ ds.length ∧ ∃ S2 ρ2, Same S1 S2 ∧ Ok X.K T β G S2 σ' ρ2 H' ∧ PostS X.K T W β G S2 (loopS (turnS gd g) (ds.drop i) ρ2) De,
      ⟨_, rfl, Nat.zero_le _, S1, ρ1, Same.refl _, o1, p.mono e1⟩, ?_⟩
    rintro i m σ2 H2 ⟨rfl, hi2, S2, ρ2, e2, o2, p2⟩
    by_cases hlt : i < ds.length
    · obtain ⟨hgo, hy⟩ := (wk S2 H2 e2 o2.sh i).1 ds[i] (List.getElem?_eq_getElem hlt)
      rw [List.drop_eq_getElem_cons hlt] at p2
      refine .inr ⟨hgo, fun σ' H' => ∃ S3 ρ3, Same S1 S3 ∧ Ok X.K T β G S3 σ' ρ3 H' ∧ PostS X.K T W β G S3 (loopS (turnS gd g) (ds.drop (i + 1)) ρ3) De, ?_, ?_⟩
      · rintro σ' H' ⟨S3, ρ3, e3, o3, p3⟩
        exact ⟨ds.length - (i + 1), by omega, rfl, hlt, S3, ρ3, e3, o3, p3⟩
      · intro x H3 hyx
        obtain ⟨S3, x3, r3⟩ := hy x H3 hyx
        have o3 := o2.ext x3
        refine ⟨β, G, S3, ρ2, ds[i], o3, r3, ?_⟩
        unfold loopS turnS at p2
        cases q1 : gd ds[i] ρ2 with
        | none => rw [q1] at p2; exact p2.elim
        | some ρ3 =>
          rw [q1] at p2
          dsimp only at p2 ⊢
          intro σ3 o4
          refine ⟨β, G, S3, ρ3, o4, ?_⟩
          have p3 := p2.mono x3.s
          revert p3
          cases g ρ3 with
          | nx ρ4 => exact fun p3 S4 σ4 H4 e4 o5 => ⟨S4, ρ4, (e2.trans x3.s).trans e4, o5, p3.mono e4⟩
          | ct ρ4 => exact fun p3 S4 σ4 H4 e4 o5 => ⟨S4, ρ4, (e2.trans x3.s).trans e4, o5, p3.mono e4⟩
          | bk ρ4 => exact fun p3 => p3
          | rt v ρ4 => exact fun p3 => p3
          | rf ds ρ4 => exact fun p3 => p3
          | err x ρ4 => exact fun p3 => p3
          | bad => exact fun p3 => p3
    · have e : i = ds.length := by omega
      subst e
      rw [List.drop_length] at p2
      exact .inl ⟨(wk S2 H2 e2 o2.sh _).2 rfl, p2 S2 σ2 H2 (Same.refl _) o2⟩
end
end Lq
namespace Lq
open PySem PySem.Spec PyProof.Rows L2
/-! ### walks -/
def chars (s : Str) : List D := s.cps.toList.map fun c => D.str ⟨#[c]⟩
def itemsOf : D → Option (List D)
  | .lst xs => some xs
  | .tup xs => some xs
  | .str s => some (chars s)
  | _ => none
section
variable {K : PySem.W.Frag} {T : Tb} {W : WX} {β : Bt} {G S S' H : Hp} {σ : L2.St} {ρ : Rho} {X : Cx} {tg e : Expr} {es : List Expr} {fa : Rho → R VD} {fs : Rho → R (List VD)} {pos : Pos}
theorem PostI.mono {r : R (List D)} {Q : It → Hp → Prop} (h : PostI K T W β G S σ r Q) (e : Same S S') : PostI K T W β G S' σ r Q := by
  cases r with
  | ok a ρ' => exact fun S2 H2 J e2 o => h S2 H2 J (e.trans e2) o
  | err x ρ' => exact fun S2 H2 c d e2 o => h S2 H2 c d (e.trans e2) o
  | bad => exact h
theorem PostI.thn {α γ : Type} {Rl : Hp → α → γ → Prop} {r : R α} {k : α → Rho → R (List D)} {Q : It → Hp → Prop} {Q' : γ → Hp → Prop} (h : PostI K T W β G S σ (r.bind k) Q)
    (f : ∀ S1 H1 ρ1 a u, Same S S1 → Ok K T β G S1 σ ρ1 H1 → Rl S1 a u → PostI K T W β G S1 σ (k a ρ1) Q → Q' u H1) : Post K T W β G S σ Rl r Q' := by
  cases r with
  | ok a ρ' => exact fun S1 H1 u e o q => f S1 H1 ρ' a u e o q (PostI.mono h e)
  | err x ρ' => exact h
  | bad => exact h.elim
/-- a list, a tuple, a text, whichever it is -/
theorem pi_any {l : Expr} {tl : TE} (hl : PE X l tl) : PI X tg l (fun σ H Q => tl σ H fun x H1 => (∃ a, x = .ref a ∧ (∃ xs, SqL X.K H1 a xs) ∧ Q (Itl X.K a) H1) ∨ (∃ a, x = .ref a ∧ (∃ xs, SqT X.K H1 a xs) ∧ Q (Itt X.K a) H1) ∨ (∃ z, x = .str z ∧ Q (Its z) H1)) := by
  refine ⟨fun pins s σ H Q I h => thn (hl.run pins s σ H _ I h) fun v s1 ⟨x, H1, I1, r1, q1⟩ => ?_⟩
  rcases q1 with ⟨a, rfl, ⟨xs, hq⟩, q⟩ | ⟨a, rfl, ⟨xs, hq⟩, q⟩ | ⟨z, rfl, q⟩
  · cases r1
    obtain ⟨its, _, p, _⟩ := I1.list hq
    exact wpAny_pyIter_list p.isList (pi_one (tk := s1.toks) I1 _ (turn_list a _) ⟨_, Heap.get?_push_size _ rfl, rfl, rfl⟩ q)
  · cases r1
    obtain ⟨its, _, p, _⟩ := I1.tuple hq
    exact wpAny_pyIter_tuple (show s1.heap.IsTuple a its.toArray from p) (pi_one (tk := s1.toks) I1 _ (turn_tuple a _) ⟨_, Heap.get?_push_size _ rfl, rfl, rfl⟩ q)
  · obtain ⟨t, rfl⟩ := r1
    cases ha : z.cps.all (· < 128)
    · exact wpAny_pyIter_wide ha (pi_one (tk := s1.toks) I1 _ (turn_str _ z t _ (.inr rfl)) ⟨_, Heap.get?_push_size _ rfl, rfl, rfl⟩ q)
    · exact wpAny_pyIter_ascii ha (pi_one (tk := s1.toks) I1 _ (turn_str _ z t _ (.inl rfl)) ⟨_, Heap.get?_push_size _ rfl, rfl, rfl⟩ q)
theorem wk_str {z : Str} : Wk K T S (chars z) (Its z) := fun S1 H1 e1 e2 i => by
  refine ⟨fun d hd => ?_, fun hl => have hl := Nat.le_of_eq hl.symm; ?_⟩
  · unfold chars at hd
    rw [List.getElem?_map] at hd
    cases q : z.cps.toList[i]? with
    | none => rw [q] at hd; cases hd
    | some c =>
      rw [q] at hd
      have hd' : D.str ⟨#[c]⟩ = d := Option.some.inj hd
      subst hd'
      have hi : i < z.cps.size := by have := (List.getElem?_eq_some_iff.mp q).1; simpa using this
      refine ⟨hi, fun x H2 hy => ?_⟩
      obtain ⟨rfl, c', hc, rfl⟩ := hy
      refine ⟨S1, Ext.refl e2, ?_⟩
      have : c' = c := by
        rw [Array.getElem?_toList] at q
        rw [hc] at q; exact Option.some.inj q
      rw [this]; rfl
  · unfold chars at hl
    show z.cps.size ≤ i
    simpa using hl
/-- a slot's own list becomes plain data -/
theorem Ok.frzSlot (o : Ok K T β G S σ ρ H) {i : Nat} {xs : List D} (h : ρ[i]? = some (.m xs)) : ∃ a vs, σ[i]? = some (some (.ref a)) ∧ H a = some (.lst vs) ∧ S a = none ∧ Rps K T S xs vs ∧ Ok K T β G (upd S a (.lst vs)) σ (ρ.set i (.d (.lst xs))) H := by
  obtain ⟨a, vs, e1, e2, e3, e4, e5, r⟩ := o.cel i _ h
  have hl := o.lt h
  have es : σ.set i (some (.ref a)) = σ := by
    apply List.ext_getElem?
    intro j
    by_cases hj : j = i
    · subst hj; rw [List.getElem?_set_self hl, e1]
    · rw [List.getElem?_set_ne (Ne.symm hj)]
  have o1 := o.setN (i := i) (v := some (.ref a))
  rw [es] at o1
  have fr : Fre β G S σ (ρ.set i .no) a := ⟨e3, e4, e5, fun j ys q z => by
    have hj : j ≠ i := fun e => by subst e; cases get_set_eq q
    rw [List.getElem?_set_ne (Ne.symm hj)] at q
    exact hj (o.dis j i ys xs q h (z.trans e1.symm)), fun j l q z => (by
    have hj : j ≠ i := fun e => by subst e; cases get_set_eq q
    rw [List.getElem?_set_ne (Ne.symm hj)] at q
    obtain ⟨a', kvs, f1, f2, _⟩ := o.cel j _ q
    rw [f1] at z; cases z; rw [e2] at f2; cases f2), fun j l q z => by
    have hj : j ≠ i := fun e => by subst e; cases get_set_eq q
    rw [List.getElem?_set_ne (Ne.symm hj)] at q
    obtain ⟨a', kvs, f1, f2, _⟩ := o.cel j _ q
    rw [f1] at z; cases z; rw [e2] at f2; cases f2⟩
  have o2 := o1.freeze fr e2
  have o3 := o2.setD (i := i) (x := .lst xs) (v := .ref a) ⟨a, vs, rfl, upd_same, Rps.mono (same_new e3) _ _ r⟩
  rw [es, List.set_set] at o3
  exact ⟨a, vs, e1, e2, e3, r, o3⟩
def seqI (fa : Rho → R VD) : Rho → R (List D) := fun ρ => (fa ρ).bind fun v ρ1 => match v with
  | .d x => (match itemsOf x with | some ds => .ok ds ρ1 | none => .bad)
  | .sl i => (match ρ1[i]? with | some (.m xs) => .ok xs (ρ1.set i (.d (.lst xs))) | _ => .bad)
theorem wk_list' {a : Addr} {ds : List D} {vs : List V} (h : S a = some (.lst vs)) (r : Rps K T S ds vs) : Wk K T S ds (Itl K a) := fun S1 H1 e1 e2 i => by
  have h1 : H1 a = some (.lst vs) := e2 _ _ (e1 _ _ h)
  refine ⟨fun d hd => ?_, fun hl => have hl := Nat.le_of_eq hl.symm; ⟨vs, SqL.of h1, by rw [r.len]; exact hl⟩⟩
  obtain ⟨v, hv, rv⟩ := r.get hd
  refine ⟨⟨vs, v, SqL.of h1, hv⟩, fun x H2 hy => ?_⟩
  obtain ⟨rfl, hx⟩ := hy
  have := hx vs (SqL.of h1)
  rw [hv] at this; cases this
  exact ⟨S1, Ext.refl e2, Rp.mono e1 _ _ rv⟩
theorem wk_tup {a : Addr} {ds : List D} {vs : List V} (h : SqT K S a vs) (r : Rps K T S ds vs) : Wk K T S ds (Itt K a) := fun S1 H1 e1 e2 i => by
  have h1 : SqT K H1 a vs := same_tup e2 (same_tup e1 h)
  refine ⟨fun d hd => ?_, fun hl => have hl := Nat.le_of_eq hl.symm; ⟨vs, h1, by rw [r.len]; exact hl⟩⟩
  obtain ⟨v, hv, rv⟩ := r.get hd
  refine ⟨⟨vs, v, h1, hv⟩, fun x H2 hy => ?_⟩
  obtain ⟨rfl, hx⟩ := hy
  have := hx vs h1
  rw [hv] at this; cases this
  exact ⟨S1, Ext.refl e2, Rp.mono e1 _ _ rv⟩
theorem _root_.L2.PI.impQ {X : Cx} {tg e : Expr} {t t' : TI} (h : PI X tg e t) (i : ∀ σ H Q, t' σ H Q → t σ H Q) : PI X tg e t' := ⟨fun pins s σ H Q I w => h.run pins s σ H Q I (i σ H Q w)⟩
theorem xi_seq (he : XE X T W e fa) : XI X T W tg e (seqI fa) := (pi_any he).impQ fun σ H Q h => by
  obtain ⟨β, G, S, ρ, o, p⟩ := h
  refine ⟨β, G, S, ρ, o, PostI.thn (Rl := RpV X.K T σ) p fun S1 H1 ρ1 v u e1 o1 h1 p1 => ?_⟩
  cases v with
  | d x =>
    dsimp only at p1
    cases x with
    | lst ds =>
      obtain ⟨a, vs, e2, q, r⟩ := h1
      exact .inl ⟨a, e2, ⟨vs, SqL.of (o1.sh _ _ q)⟩, p1 S1 H1 _ (Same.refl _) o1 (wk_list' q r)⟩
    | tup ds =>
      obtain ⟨a, vs, e2, q, r⟩ := h1
      exact .inr (.inl ⟨a, e2, ⟨vs, same_tup o1.sh q⟩, p1 S1 H1 _ (Same.refl _) o1 (wk_tup q r)⟩)
    | str z => exact .inr (.inr ⟨z, h1, p1 S1 H1 _ (Same.refl _) o1 wk_str⟩)
    | _ => exact p1.elim
  | sl i =>
    dsimp only at p1
    split at p1
    · rename_i xs q
      obtain ⟨a, vs, e2, e3, e4, r, o2⟩ := o1.frzSlot q
      have : σ[i]? = some (some u) := h1
      rw [e2] at this; cases this
      exact .inl ⟨a, rfl, ⟨vs, SqL.of e3⟩, p1 _ H1 _ (same_new e4) o2 (wk_list' upd_same (Rps.mono (same_new e4) _ _ r))⟩
    · exact p1.elim
/-- range(n), range(m, n) -/
def rng (lo : Int) (n : Nat) : List D := (List.range n).map fun i => D.int (lo + (i : Nat))
theorem wk_rng {lo : Int} {n : Nat} : Wk K T S (rng lo n) (Itr lo n) := fun S1 H1 e1 e2 i => by
  unfold rng
  refine ⟨fun d hd => ?_, fun hl => have hl := Nat.le_of_eq hl.symm; ?_⟩
  · rw [List.getElem?_map] at hd
    cases q : (List.range n)[i]? with
    | none => rw [q] at hd; cases hd
    | some j =>
      rw [q] at hd
      obtain ⟨h1, h2⟩ := List.getElem?_eq_some_iff.mp q
      rw [List.length_range] at h1
      rw [List.getElem_range] at h2
      subst h2
      cases hd
      refine ⟨h1, fun x H2 hy => ?_⟩
      obtain ⟨rfl, rfl⟩ := hy
      exact ⟨S1, Ext.refl e2, rfl⟩
  · rw [List.length_map, List.length_range] at hl
    exact hl
def okR (i : Int) : Bool := Nat.ble i.natAbs 4611686018427387903
theorem okR_of {i : Int} (h : okR i = true) : -(2 ^ 62) ≤ i ∧ i < 2 ^ 62 := by
  unfold okR at h
  have := Nat.le_of_ble_eq_true h
  omega
def rngI1 (fs : Rho → R (List VD)) : Rho → R (List D) := fun ρ => (fs ρ).bind fun vs ρ1 => match vs with
  | [.d (.int n)] => if okR n then .ok (rng 0 n.toNat) ρ1 else .bad
  | _ => .bad
def rngI2 (fs : Rho → R (List VD)) : Rho → R (List D) := fun ρ => (fs ρ).bind fun vs ρ1 => match vs with
  | [.d (.int m), .d (.int n)] => if okR m && okR n then .ok (rng m (n - m).toNat) ρ1 else .bad
  | _ => .bad
theorem RpVs.one {v : VD} {us : List V} (h : RpVs K T σ S [v] us) : ∃ u, us = [u] ∧ RpV K T σ S v u := by
  obtain ⟨u, r, e1, h1, h2⟩ := h
  rw [show r = [] from h2] at e1
  exact ⟨u, e1, h1⟩
theorem RpVs.two {v w : VD} {us : List V} (h : RpVs K T σ S [v, w] us) : ∃ u z, us = [u, z] ∧ RpV K T σ S v u ∧ RpV K T σ S w z := by
  obtain ⟨u, r, e1, h1, h2⟩ := h
  obtain ⟨z, e2, h3⟩ := h2.one
  rw [e2] at e1
  exact ⟨u, z, e1, h1, h3⟩
theorem xi_range1 {p : Pos} (hm : X.mg "range" = none) (ha : XA X T W [e] fs) (hg : L2.Gl X "range" := by rfl) (hs : starEach [e] X.env = [(false, eval e X.env)] := by rfl) : XI X T W tg (.Call (.Name "range" p) [e] [] pos) (rngI1 fs) := (pi_range1 hg hm ha hs).impQ fun σ H Q h => by
  obtain ⟨β, G, S, ρ, o, p⟩ := h
  refine ⟨β, G, S, ρ, o, PostI.thn (Rl := RpVs X.K T σ) p fun S1 H1 ρ1 v u e1 o1 h1 p1 => ?_⟩
  split at p1
  · rename_i n
    split at p1
    · rename_i hn
      obtain ⟨z, rfl, hz⟩ := h1.one
      have hb := okR_of hn
      exact ⟨n, by rw [show z = .int n from hz], hb.1, hb.2, p1 S1 H1 _ (Same.refl _) o1 wk_rng⟩
    · exact p1.elim
  · exact p1.elim
/-- enumerate of a list -/
def enumD (ds : List D) : List D := ds.zipIdx.map fun p => D.tup [.int (p.2 : Nat), p.1]
def enumI (fs : Rho → R (List VD)) : Rho → R (List D) := fun ρ => (fs ρ).bind fun vs ρ1 => match vs with
  | [.d (.lst ds)] => .ok (enumD ds) ρ1
  | [.sl i] => (match ρ1[i]? with | some (.m xs) => .ok (enumD xs) (ρ1.set i (.d (.lst xs))) | _ => .bad)
  | _ => .bad
/-- zip of two lists, of two tuples -/
def zipD (xs ys : List D) : List D := (xs.zip ys).map fun p => D.tup [p.1, p.2]
theorem zip_get {xs ys : List D} {i : Nat} {d : D} (h : (zipD xs ys)[i]? = some d) : ∃ x y, xs[i]? = some x ∧ ys[i]? = some y ∧ d = .tup [x, y] := by
  unfold zipD at h
  rw [List.getElem?_map] at h
  cases q : (xs.zip ys)[i]? with
  | none => rw [q] at h; cases h
  | some p =>
    rw [q] at h
    obtain ⟨h1, h2⟩ := List.getElem?_zip_eq_some.mp q
    exact ⟨p.1, p.2, h1, h2, (Option.some.inj h).symm⟩
theorem pair_new {S1 H1 : Hp} {t : Addr} {x y : D} {v w : V} (e2 : SameT T S1 H1) (ht : H1 t = none) (rx : Rp K T S1 x v) (ry : Rp K T S1 y w) : ∃ S2, Ext T S1 H1 S2 (upd H1 t (.tup [v, w])) ∧ Rp K T S2 (.tup [x, y]) (.ref t) := by
  have sn := same_new (o := .tup [v, w]) (e2.free ht)
  exact ⟨upd S1 t (.tup [v, w]), Ext.new e2 ht, t, [v, w], rfl, SqT.of upd_same, _, _, rfl, Rp.mono sn _ _ rx, _, _, rfl, Rp.mono sn _ _ ry, rfl⟩
theorem wk_zipL {a b : Addr} {xs ys : List D} {vs ws : List V} (h : S a = some (.lst vs)) (r : Rps K T S xs vs) (h' : S b = some (.lst ws)) (r' : Rps K T S ys ws) : Wk K T S (zipD xs ys) (Itz K a b) := fun S1 H1 e1 e2 i => by
  have h1 : H1 a = some (.lst vs) := e2 _ _ (e1 _ _ h)
  have h2 : H1 b = some (.lst ws) := e2 _ _ (e1 _ _ h')
  refine ⟨fun d hd => ?_, fun hl => have hl := Nat.le_of_eq hl.symm; ⟨vs, ws, SqL.of h1, SqL.of h2, ?_⟩⟩
  · obtain ⟨x, y, q1, q2, rfl⟩ := zip_get hd
    obtain ⟨v, hv, rv⟩ := r.get q1
    obtain ⟨w, hw, rw'⟩ := r'.get q2
    refine ⟨⟨vs, ws, v, w, SqL.of h1, SqL.of h2, hv, hw⟩, fun z H2 hy => ?_⟩
    obtain ⟨t, x1, x2, rfl, ht, rfl, f1, f2⟩ := hy
    have g1 := f1 vs (SqL.of h1)
    have g2 := f2 ws (SqL.of h2)
    rw [hv] at g1; cases g1
    rw [hw] at g2; cases g2
    exact pair_new e2 ht (Rp.mono e1 _ _ rv) (Rp.mono e1 _ _ rw')
  · unfold zipD at hl
    rw [List.length_map, List.length_zip] at hl
    rw [r.len, r'.len]
    omega
theorem wk_zipT {a b : Addr} {xs ys : List D} {vs ws : List V} (h : SqT K S a vs) (r : Rps K T S xs vs) (h' : SqT K S b ws) (r' : Rps K T S ys ws) : Wk K T S (zipD xs ys) (RZ.ItzT K a b) := fun S1 H1 e1 e2 i => by
  have h1 : SqT K H1 a vs := same_tup e2 (same_tup e1 h)
  have h2 : SqT K H1 b ws := same_tup e2 (same_tup e1 h')
  refine ⟨fun d hd => ?_, fun hl => have hl := Nat.le_of_eq hl.symm; ⟨vs, ws, h1, h2, ?_⟩⟩
  · obtain ⟨x, y, q1, q2, rfl⟩ := zip_get hd
    obtain ⟨v, hv, rv⟩ := r.get q1
    obtain ⟨w, hw, rw'⟩ := r'.get q2
    refine ⟨⟨vs, ws, v, w, h1, h2, hv, hw⟩, fun z H2 hy => ?_⟩
    obtain ⟨t, x1, x2, rfl, ht, rfl, f1, f2⟩ := hy
    have g1 := f1 vs h1
    have g2 := f2 ws h2
    rw [hv] at g1; cases g1
    rw [hw] at g2; cases g2
    exact pair_new e2 ht (Rp.mono e1 _ _ rv) (Rp.mono e1 _ _ rw')
  · unfold zipD at hl
    rw [List.length_map, List.length_zip] at hl
    rw [r.len, r'.len]
    omega
def zipI (fs : Rho → R (List VD)) : Rho → R (List D) := fun ρ => (fs ρ).bind fun vs ρ1 => match vs with
  | [.d (.lst xs), .d (.lst ys)] => .ok (zipD xs ys) ρ1
  | [.d (.tup xs), .d (.tup ys)] => .ok (zipD xs ys) ρ1
  | _ => .bad
theorem xi_zip {p tpos : Pos} {e2 : Expr} {elts : List Expr} {kk : Nat} (hm : X.mg "zip" = none) (ha : XA X T W [e, e2] fs) (hg : L2.Gl X "zip" := by rfl) (hs : starEach [e, e2] X.env = (false, eval e X.env) :: starEach [e2] X.env := by rfl) (hpl : (backTo pos (starEach [e2] X.env)).any (·.1) = false := by rfl) : XI X T W (.Tuple elts kk tpos) (.Call (.Name "zip" p) [e, e2] [] pos) (zipI fs) := (RZ.pi_zipA hg hm ha hs hpl).impQ fun σ H Q h => by
  obtain ⟨β, G, S, ρ, o, p⟩ := h
  refine ⟨β, G, S, ρ, o, PostI.thn (Rl := RpVs X.K T σ) p fun S1 H1 ρ1 v u e1 o1 h1 p1 => ?_⟩
  split at p1
  · obtain ⟨z, y, rfl, ⟨a, vs, rfl, q, r⟩, b, ws, rfl, q', r'⟩ := h1.two
    exact ⟨a, b, vs, ws, rfl, .inl ⟨SqL.of (o1.sh _ _ q), SqL.of (o1.sh _ _ q'), p1 S1 H1 _ (Same.refl _) o1 (wk_zipL q r q' r')⟩⟩
  · obtain ⟨z, y, rfl, ⟨a, vs, rfl, q, r⟩, b, ws, rfl, q', r'⟩ := h1.two
    exact ⟨a, b, vs, ws, rfl, .inr ⟨same_tup o1.sh q, same_tup o1.sh q', p1 S1 H1 _ (Same.refl _) o1 (wk_zipT q r q' r')⟩⟩
  · exact p1.elim
end
end Lq
namespace Lq
open PySem PySem.Spec PyProof.Rows L2
/-! ### comprehensions -/
def wipeR (ρ : Rho) : List Nat → Rho
  | [] => ρ
  | v :: vs => (wipeR ρ vs).set v .no
def backR (ρ0 ρ : Rho) : List Nat → Rho
  | [] => ρ
  | v :: vs => (backR ρ0 ρ vs).set v (ρ0.getD v .no)
def plainC : Cell → Bool
  | .no => true
  | .d _ => true
  | _ => false
section
variable {K : PySem.W.Frag} {T : Tb} {W : WX} {β : Bt} {G S S' H : Hp} {σ : L2.St} {ρ : Rho}
theorem Ok.wipe (o : Ok K T β G S σ ρ H) : ∀ vs : List Nat, Ok K T β G S (L2.wipe σ vs) (wipeR ρ vs) H
  | [] => o
  | v :: vs => (Ok.wipe o vs).setN
theorem wipe_in {σ : L2.St} : ∀ {vs : List Nat} {v : Nat}, v ∈ vs → v < σ.length → (L2.wipe σ vs)[v]? = some none
  | [], _, h, _ => by cases h
  | w :: vs, v, h, hl => by
    unfold L2.wipe
    by_cases e : w = v
    · subst e; exact List.getElem?_set_self (by rw [wipe_length]; exact hl)
    · rw [List.getElem?_set_ne e]
      exact wipe_in ((List.mem_cons.mp h).resolve_left (fun z => e z.symm)) hl
theorem wipe_out' {σ : L2.St} : ∀ {vs : List Nat} {v : Nat}, v ∉ vs → (L2.wipe σ vs)[v]? = σ[v]?
  | [], _, _ => rfl
  | w :: vs, v, h => by
    unfold L2.wipe
    simp only [List.mem_cons, not_or] at h
    rw [List.getElem?_set_ne (Ne.symm h.1)]
    exact wipe_out' h.2
theorem backR_len (ρ0 ρ : Rho) : ∀ vs : List Nat, (backR ρ0 ρ vs).length = ρ.length
  | [] => rfl
  | v :: vs => by unfold backR; rw [List.length_set, backR_len ρ0 ρ vs]
theorem backR_out {ρ0 ρ : Rho} : ∀ {vs : List Nat} {v : Nat}, v ∉ vs → (backR ρ0 ρ vs)[v]? = ρ[v]?
  | [], _, _ => rfl
  | w :: vs, v, h => by
    unfold backR
    simp only [List.mem_cons, not_or] at h
    rw [List.getElem?_set_ne (Ne.symm h.1)]
    exact backR_out h.2
theorem backR_in {ρ0 ρ : Rho} : ∀ {vs : List Nat} {v : Nat}, v ∈ vs → v < ρ.length → (backR ρ0 ρ vs)[v]? = some (ρ0.getD v .no)
  | [], _, h, _ => by cases h
  | w :: vs, v, h, hl => by
    unfold backR
    by_cases e : w = v
    · subst e; exact List.getElem?_set_self (by rw [backR_len]; exact hl)
    · rw [List.getElem?_set_ne e]
      exact backR_in ((List.mem_cons.mp h).resolve_left (fun z => e z.symm)) hl
/-- behind a comprehension: its own names are as they were -/
theorem Ok.back {ρ0 : Rho} {S0 H0 : Hp} {vs : List Nat} (o0 : Ok K T β G S0 σ ρ0 H0) (o : Ok K T β G S (L2.wipe σ vs) ρ H) (e : Same S0 S) (hp : ∀ v ∈ vs, plainC (ρ0.getD v .no) = true) : Ok K T β G S σ (backR ρ0 ρ vs) H where
  sh := o.sh
  gh := o.gh
  gs := o.gs
  gb := o.gb
  bx := o.bx
  len := by rw [backR_len, ← o.len, wipe_length]
  cel := fun i c q => by
    by_cases hi : i ∈ vs
    · have hl : i < ρ.length := by have := (List.getElem?_eq_some_iff.mp q).1; rwa [backR_len] at this
      rw [backR_in hi hl] at q
      have q' : ρ0.getD i .no = c := Option.some.inj q
      have hpi := hp i hi
      rw [q'] at hpi
      cases c with
      | no => trivial
      | d x =>
        have q2 : ρ0[i]? = some (.d x) := by
          rw [List.getD_eq_getElem?_getD] at q'
          cases z : ρ0[i]? with
          | none => rw [z] at q'; cases q'
          | some y => rw [z] at q'; simp at q'; rw [q']
        obtain ⟨u, e1, r⟩ := o0.cel i _ q2
        exact ⟨u, e1, Rp.mono e _ _ r⟩
      | m xs => cases hpi
      | b ns => cases hpi
      | k l => cases hpi
      | kt l => cases hpi
      | s t => cases hpi
    · rw [backR_out hi] at q
      have := o.cel i c q
      rw [wipe_out' hi] at this
      exact this
  dis := fun i j xs ys q1 q2 e1 => by
    have k : ∀ i xs, (backR ρ0 ρ vs)[i]? = some (.m xs) → i ∉ vs := fun i xs q hi => by
      have hl : i < ρ.length := by have := (List.getElem?_eq_some_iff.mp q).1; rwa [backR_len] at this
      rw [backR_in hi hl] at q
      have hpi := hp i hi
      rw [Option.some.inj q] at hpi; cases hpi
    have hi := k i xs q1
    have hj := k j ys q2
    rw [backR_out hi] at q1
    rw [backR_out hj] at q2
    exact o.dis i j xs ys q1 q2 (by rw [wipe_out' hi, wipe_out' hj]; exact e1)
/-- a new thing is guarded -/
theorem Ok.guard (o : Ok K T β G S σ ρ H) {p : Addr} {u : HO} (h : H p = none) : Ok K T β (upd G p u) S σ ρ (upd H p u) where
  sh := o.sh.skip h
  gh := same_upd2 o.gh
  gs := fun b v q n => by
    by_cases hb : b = p
    · subst hb; exact o.sh.free h
    · rw [upd_ne hb] at q; exact o.gs b v q n
  gb := fun b q => by
    obtain ⟨ns, hb, _⟩ := o.bx b q
    rw [upd_ne (ne_of_none hb h)]; exact o.gb b q
  bx := fun b q => by
    obtain ⟨ns, hb, hn⟩ := o.bx b q
    exact (same_new h).there hb hn
  len := o.len
  cel := fun i c q => by
    have h1 := o.cel i c q
    cases c with
    | no => trivial
    | d x => exact h1
    | m xs =>
      obtain ⟨a, vs, e1, e2, e3, e4, e5, r⟩ := h1
      exact ⟨a, vs, e1, same_new h _ _ e2, e3, by rw [upd_ne (ne_of_none e2 h)]; exact e4, e5, r⟩
    | k l =>
      obtain ⟨a, kvs, e1, e2, e3, e4, e5, ek, r⟩ := h1
      exact ⟨a, kvs, e1, same_new h _ _ e2, e3, by rw [upd_ne (ne_of_none e2 h)]; exact e4, e5, ek, r⟩
    | kt l =>
      obtain ⟨a, kvs, e1, e2, e3, e4, e5, ek, r⟩ := h1
      exact ⟨a, kvs, e1, same_new h _ _ e2, e3, by rw [upd_ne (ne_of_none e2 h)]; exact e4, e5, ek, r⟩
    | b ns => obtain ⟨a, e1, e2, e3⟩ := h1; exact ⟨a, e1, e2, same_new h _ _ e3⟩
    | s t =>
      obtain ⟨a, dx, e1, e2, e3, e4, e5, e6, e7, e8⟩ := h1
      exact ⟨a, dx, e1, e2, same_new h _ _ e3, same_new h _ _ e4, e5, by rw [upd_ne (ne_of_none e4 h)]; exact e6, e7, by rw [upd_ne (ne_of_none e3 h)]; exact e8⟩
  dis := o.dis
/-- what is guarded is changed -/
theorem Ok.reguard {p : Addr} {u u' : HO} (o : Ok K T β (upd G p u) S σ ρ H) (hg : G p = none) (nu : NoT u := by exact fun _ z => nomatch z) (nb : NoTb u := by exact fun _ z => nomatch z) (ne : ∀ φ, u ≠ .ext φ := by exact fun _ z => nomatch z) : Ok K T β (upd G p u') S σ ρ (upd H p u') where
  sh := o.sh.step (Keep.upd (o.gh.at_ p u upd_same nb) nb ne) fun b v q => by
    have hb : b ≠ p := fun z => by subst z; rw [o.gs b u upd_same nu] at q; cases q
    exact .inr ⟨q, upd_ne hb⟩
  gh := o.gh.step fun b v q => by
    by_cases hb : b = p
    · subst hb; rw [upd_same] at q ⊢; exact .inl q
    · rw [upd_ne hb] at q; exact .inr ⟨by rw [upd_ne hb]; exact q, upd_ne hb⟩
  gs := fun b v q n => by
    by_cases hb : b = p
    · subst hb; exact o.gs b u upd_same nu
    · rw [upd_ne hb] at q; exact o.gs b v (by rw [upd_ne hb]; exact q) n
  gb := fun b q => by
    have hb : b ≠ p := fun z => by subst z; have := (o.gb b q).1; rw [upd_same] at this; cases this
    rw [upd_ne hb]; have := o.gb b q; rw [upd_ne hb] at this; exact this
  bx := fun b q => by
    have hb : b ≠ p := fun z => by subst z; have := (o.gb b q).1; rw [upd_same] at this; cases this
    rw [upd_ne hb]; exact o.bx b q
  len := o.len
  cel := fun i c q => by
    have h1 := o.cel i c q
    cases c with
    | no => trivial
    | d x => exact h1
    | m xs =>
      obtain ⟨a, vs, e1, e2, e3, e4, e5, r⟩ := h1
      have hb : a ≠ p := fun z => by subst z; rw [upd_same] at e4; cases e4
      exact ⟨a, vs, e1, by rw [upd_ne hb]; exact e2, e3, by rw [upd_ne hb] at e4 ⊢; exact e4, e5, r⟩
    | k l =>
      obtain ⟨a, kvs, e1, e2, e3, e4, e5, ek, r⟩ := h1
      have hb : a ≠ p := fun z => by subst z; rw [upd_same] at e4; cases e4
      exact ⟨a, kvs, e1, by rw [upd_ne hb]; exact e2, e3, by rw [upd_ne hb] at e4 ⊢; exact e4, e5, ek, r⟩
    | kt l =>
      obtain ⟨a, kvs, e1, e2, e3, e4, e5, ek, r⟩ := h1
      have hb : a ≠ p := fun z => by subst z; rw [upd_same] at e4; cases e4
      exact ⟨a, kvs, e1, by rw [upd_ne hb]; exact e2, e3, by rw [upd_ne hb] at e4 ⊢; exact e4, e5, ek, r⟩
    | b ns =>
      obtain ⟨a, e1, e2, e3⟩ := h1
      have hb : a ≠ p := fun z => by subst z; have := (o.gb a e2).1; rw [upd_same] at this; cases this
      exact ⟨a, e1, e2, by rw [upd_ne hb]; exact e3⟩
    | s t =>
      obtain ⟨a, dx, e1, e2, e3, e4, e5, e6, e7, e8⟩ := h1
      have hb : a ≠ p := fun z => by subst z; rw [upd_same] at e8; cases e8
      have hd : dx ≠ p := fun z => by subst z; rw [upd_same] at e6; cases e6
      exact ⟨a, dx, e1, e2, by rw [upd_ne hb]; exact e3, by rw [upd_ne hd]; exact e4, e5, by rw [upd_ne hd] at e6 ⊢; exact e6, e7, by rw [upd_ne hb] at e8 ⊢; exact e8⟩
  dis := o.dis
theorem Ok.unguard {p : Addr} {u : HO} (o : Ok K T β (upd G p u) S σ ρ H) (hg : G p = none) (nu : NoT u := by exact fun _ z => nomatch z) (nb : NoTb u := by exact fun _ z => nomatch z) : Ok K T β G S σ ρ H ∧ Fre β G S σ ρ p ∧ H p = some u := by
  refine ⟨⟨o.sh, (same_new hg).trans o.gh, fun b v q n => o.gs b v (by rw [upd_ne (ne_of_none q hg)]; exact q) n, fun b q => ?_, o.bx, o.len, fun i c q => ?_, o.dis⟩, ⟨o.gs p u upd_same nu, hg, fun e => ?_, fun i xs q z => ?_, fun i l q z => ?_, fun i l q z => ?_⟩, o.gh.at_ p u upd_same nb⟩
  · refine ⟨?_, (o.gb b q).2⟩
    have hb : b ≠ p := fun z => by subst z; have := (o.gb b q).1; rw [upd_same] at this; cases this
    have := (o.gb b q).1; rw [upd_ne hb] at this; exact this
  · have h1 := o.cel i c q
    cases c with
    | no => trivial
    | d x => exact h1
    | m xs =>
      obtain ⟨a, vs, e1, e2, e3, e4, e5, r⟩ := h1
      have hb : a ≠ p := fun z => by subst z; rw [upd_same] at e4; cases e4
      exact ⟨a, vs, e1, e2, e3, by rw [upd_ne hb] at e4; exact e4, e5, r⟩
    | k l =>
      obtain ⟨a, kvs, e1, e2, e3, e4, e5, ek, r⟩ := h1
      have hb : a ≠ p := fun z => by subst z; rw [upd_same] at e4; cases e4
      exact ⟨a, kvs, e1, e2, e3, by rw [upd_ne hb] at e4; exact e4, e5, ek, r⟩
    | kt l =>
      obtain ⟨a, kvs, e1, e2, e3, e4, e5, ek, r⟩ := h1
      have hb : a ≠ p := fun z => by subst z; rw [upd_same] at e4; cases e4
      exact ⟨a, kvs, e1, e2, e3, by rw [upd_ne hb] at e4; exact e4, e5, ek, r⟩
    | b ns => exact h1
    | s t =>
      obtain ⟨a, dx, e1, e2, e3, e4, e5, e6, e7, e8⟩ := h1
      have hb : a ≠ p := fun z => by subst z; rw [upd_same] at e8; cases e8
      have hd : dx ≠ p := fun z => by subst z; rw [upd_same] at e6; cases e6
      exact ⟨a, dx, e1, e2, e3, e4, e5, by rw [upd_ne hd] at e6; exact e6, e7, by rw [upd_ne hb] at e8; exact e8⟩
  · have := (o.gb p e).1; rw [upd_same] at this; cases this
  · obtain ⟨a, vs, e1, e2, e3, e4, e5, r⟩ := o.cel i _ q
    rw [e1] at z; cases z; rw [upd_same] at e4; cases e4
  · obtain ⟨a, kvs, e1, e2, e3, e4, e5, ek, r⟩ := o.cel i _ q
    rw [e1] at z; cases z; rw [upd_same] at e4; cases e4
  · obtain ⟨a, kvs, e1, e2, e3, e4, e5, ek, r⟩ := o.cel i _ q
    rw [e1] at z; cases z; rw [upd_same] at e4; cases e4
end
/-- one turn: the target, the test, the element -/
def compTurn (gd : D → Rho → Option Rho) (ft : Rho → R Bool) (fe : Rho → R VD) (acc : List D) (d : D) (ρ : Rho) : R (List D) := match gd d ρ with
  | some ρ1 => (ft ρ1).bind fun k ρ2 => if k then ((fe ρ2).bind fun v ρ3 => match v with | .d y => if fits (acc.length + 1) then .ok (acc ++ [y]) ρ3 else .bad | .sl _ => .bad) else .ok acc ρ2
  | none => .bad
def compLoop (vs : List Nat) (gd : D → Rho → Option Rho) (ft : Rho → R Bool) (fe : Rho → R VD) : List D → List D → Rho → R (List D)
  | acc, [], ρ => .ok acc ρ
  | acc, d :: ds, ρ => match compTurn gd ft fe acc d ρ with
    | .ok acc1 ρ1 => compLoop vs gd ft fe acc1 ds (wipeR ρ1 vs)
    | _ => .bad
def compF (vs : List Nat) (fi : Rho → R (List D)) (gd : D → Rho → Option Rho) (ft : Rho → R Bool) (fe : Rho → R VD) : Rho → R (List D) := fun ρ => (fi ρ).bind fun ds ρ1 =>
  if vs.all (fun v => plainC (ρ1.getD v .no)) then (match compLoop vs gd ft fe [] ds (wipeR ρ1 vs) with
    | .ok acc ρ2 => .ok acc (backR ρ1 ρ2 vs)
    | _ => .bad) else .bad
def W0 : WX := fun _ _ _ _ => False
/-- a target that sets nothing but the slots vs, told of the slots themselves -/
def rGo (K : PySem.W.Frag) (T : Tb) (vs : List Nat) (gd : D → Rho → Option Rho) : TG := fun v σ H Q => ∃ β G S ρ x, Ok K T β G S σ ρ H ∧ Rp K T S x v ∧ match gd x ρ with
  | some ρ' => ∀ σ', Ok K T β G S σ' ρ' H → L2.wipe σ' vs = L2.wipe σ vs → Q σ' H
  | none => False
def XGo (X : Cx) (T : Tb) (vs : List Nat) (tg : Expr) (gd : D → Rho → Option Rho) : Prop := PG X tg (rGo X.K T vs gd)
theorem wipe_set {σ : L2.St} {i : Nat} {v : Option V} : ∀ {vs : List Nat}, i ∈ vs → L2.wipe (σ.set i v) vs = L2.wipe σ vs := fun {vs} hi => by
  apply List.ext_getElem?
  intro j
  by_cases hj : j ∈ vs
  · by_cases hl : j < σ.length
    · rw [wipe_in hj hl, wipe_in hj (by rw [List.length_set]; exact hl)]
    · rw [List.getElem?_eq_none (by rw [wipe_length, List.length_set]; omega), List.getElem?_eq_none (by rw [wipe_length]; omega)]
  · rw [wipe_out' hj, wipe_out' hj, List.getElem?_set_ne (fun z => hj (by rw [← z]; exact hi))]
section
variable {X : Cx} {T : Tb} {W : WX} {e elt tg iter : Expr} {es ifs : List Expr} {fi : Rho → R (List D)} {gd : D → Rho → Option Rho} {ft : Rho → R Bool} {fe : Rho → R VD} {pos : Pos} {vs : List Nat}
theorem xgo_name (i : Nat) {x : Str} (hN : X.N.Nodup) (hv : i ∈ vs := by decide) (hi : X.N[i]? = some x := by rfl) (hx : Loc X.env.scope x := by first | exact Or.inl rfl | exact Or.inr rfl) (hf : X.fn x = true ∨ X.env.scope.names.lookup x = some .local := by first | exact .inl rfl | exact .inr rfl) : XGo X T vs (.Name x pos) (nameG i) :=
  (pg_name hN hi hx hf).impQ fun v σ H Q q => by
    obtain ⟨β, G, S, ρ, x, o, r, p⟩ := q
    exact p _ (o.setD r) (wipe_set hv)
def rGos (K : PySem.W.Frag) (T : Tb) (vs : List Nat) (gd : List D → Rho → Option Rho) : TGs := fun us σ H Q => ∃ β G S ρ xs, Ok K T β G S σ ρ H ∧ Rps K T S xs us ∧ match gd xs ρ with
  | some ρ' => ∀ σ', Ok K T β G S σ' ρ' H → L2.wipe σ' vs = L2.wipe σ vs → Q σ' H
  | none => False
def XGos (X : Cx) (T : Tb) (vs : List Nat) (tg : List Expr) (gd : List D → Rho → Option Rho) : Prop := PGs X tg (rGos X.K T vs gd)
theorem xgos_nil : XGos X T vs [] nilG := pgs_nil.impQ fun us σ H Q q => by
  obtain ⟨β, G, S, ρ, xs, o, r, p⟩ := q
  unfold nilG at p
  split at p
  · rename_i ρ' e
    split at e
    · cases e; exact ⟨r, p σ o rfl⟩
    · cases e
  · exact p.elim
theorem xgos_cons {gds : List D → Rho → Option Rho} (h1 : XGo X T vs e gd) (h2 : XGos X T vs es gds) (hs : (assignEach (e :: es) X.env).map (·.2) = assign e X.env :: (assignEach es X.env).map (·.2) := by rfl) : XGos X T vs (e :: es) (consG gd gds) :=
  (pgs_cons h1 h2 hs).impQ fun us σ H Q q => by
    obtain ⟨β, G, S, ρ, xs, o, r, p⟩ := q
    unfold consG at p
    cases xs with
    | nil => exact p.elim
    | cons x xr =>
      obtain ⟨v, vr, e1, rx, rr⟩ := r
      refine ⟨v, vr, e1, β, G, S, ρ, x, o, rx, ?_⟩
      dsimp only at p
      cases q1 : gd x ρ with
      | none => rw [q1] at p; exact p.elim
      | some ρ1 =>
        rw [q1] at p
        dsimp only at p ⊢
        refine fun σ1 o1 ew => ⟨β, G, S, ρ1, xr, o1, rr, ?_⟩
        cases q2 : gds xr ρ1 with
        | none => rw [q2] at p; exact p.elim
        | some ρ2 => rw [q2] at p; exact fun σ2 o2 ew2 => p σ2 o2 (ew2.trans ew)
theorem xgo_tup {k n : Nat} {gds : List D → Rho → Option Rho} (hc : X.calm = true) (h : XGos X T vs es gds) (hn : (assignEach es X.env).length = n := by rfl) (hst : (assignEach es X.env).findIdx? (·.1) = none := by rfl) : XGo X T vs (.Tuple es k pos) (tupG n gds) :=
  ((pg_tup hc h hn hst).orQ (pg_unl hc h hn hst)).impQ fun v σ H Q q => by
    obtain ⟨β, G, S, ρ, x, o, r, p⟩ := q
    unfold tupG at p
    cases x with
    | tup xs =>
      obtain ⟨a, us, e1, q, rr⟩ := r
      dsimp only at p
      by_cases hl : xs.length = n
      · rw [if_pos hl] at p
        exact .inl ⟨a, us, e1, same_tup o.sh q, rr.len.trans hl, β, G, S, ρ, xs, o, rr, p⟩
      · rw [if_neg hl] at p; exact p.elim
    | lst xs =>
      obtain ⟨a, us, e1, q, rr⟩ := r
      dsimp only at p
      by_cases hl : xs.length = n
      · rw [if_pos hl] at p
        exact .inr ⟨a, us, e1, SqL.of (o.sh _ _ q), rr.len.trans hl, β, G, S, ρ, xs, o, rr, p⟩
      · rw [if_neg hl] at p; exact p.elim
    | _ => exact p.elim
def XTs (X : Cx) (T : Tb) (W : WX) (ifs : List Expr) (f : Rho → R Bool) : Prop := PTs X ifs (rT X.K T W f)
def yesT : Rho → R Bool := fun ρ => .ok true ρ
theorem xts_nil : XTs X T W [] yesT := ⟨fun pins s σ H Q I h => pts_nil.run pins s σ H Q I (by
  obtain ⟨β, G, S, ρ, o, p⟩ := h
  exact p S H true (Same.refl _) o rfl)⟩
theorem tLc_of {K : PySem.W.Frag} {σ : L2.St} {H : Hp} {Q : VK} (h : rF K T W (compF vs fi gd ft fe) σ H Q) : tLc (rI K T W fi) (rGo K T vs gd) (rT K T W0 ft) (rE K T W0 fe) vs σ H Q := by
  obtain ⟨β, G, S, ρ, o, p⟩ := h
  refine ⟨β, G, S, ρ, o, ?_⟩
  unfold compF at p
  revert p
  cases fi ρ with
  | bad => exact fun p => p
  | err x ρ1 => exact fun p => p
  | ok ds ρ1 =>
    intro p S1 H1 J e1 o1 wk p0 hp0
    dsimp only [R.bind] at p
    split at p
    case isFalse => exact p.elim
    case isTrue hpl =>
    have hpl' : ∀ v ∈ vs, plainC (ρ1.getD v .no) = true := fun v hv => List.all_eq_true.mp hpl v hv
    have hG0 : G p0 = none := o1.gh.free hp0
    refine ⟨fun i m H' => m = ds.length - i ∧ i ≤ ds.length ∧ ∃ S2 ρ2 acc us, Same S1 S2 ∧ Ok K T β (upd G p0 (.lst us)) S2 (L2.wipe σ vs) ρ2 H' ∧ Rps K T S2 acc us ∧
        (match compLoop vs gd ft fe acc (ds.drop i) ρ2 with | .ok a ρe => PostF K T W β G S1 σ (.ok a (backR ρ1 ρe vs)) Q | _ => False),
      ⟨_, rfl, Nat.zero_le _, S1, wipeR ρ1 vs, [], [], Same.refl _, (o1.wipe vs).guard hp0, rfl, ?_⟩, ?_⟩
    · rw [List.drop_zero]
      revert p
      cases compLoop vs gd ft fe [] ds (wipeR ρ1 vs) with
      | ok a ρe => exact fun p => PostF.mono p e1
      | err x ρe => exact fun p => p
      | bad => exact fun p => p
    rintro i m H2 ⟨rfl, hi2, S2, ρ2, acc, us, e2, o2, ra, p2⟩
    by_cases hlt : i < ds.length
    · obtain ⟨hgo, hy⟩ := (wk S2 H2 e2 o2.sh i).1 ds[i] (List.getElem?_eq_getElem hlt)
      rw [List.drop_eq_getElem_cons hlt] at p2
      refine .inr ⟨hgo, fun H' => ∃ S3 ρ3 acc us, Same S1 S3 ∧ Ok K T β (upd G p0 (.lst us)) S3 (L2.wipe σ vs) ρ3 H' ∧ Rps K T S3 acc us ∧
        (match compLoop vs gd ft fe acc (ds.drop (i + 1)) ρ3 with | .ok a ρe => PostF K T W β G S1 σ (.ok a (backR ρ1 ρe vs)) Q | _ => False), ?_, ?_⟩
      · rintro H' ⟨S3, ρ3, acc3, us3, e3, o3, r3, p3⟩
        exact ⟨ds.length - (i + 1), by omega, rfl, hlt, S3, ρ3, acc3, us3, e3, o3, r3, p3⟩
      · intro x H3 hyx
        obtain ⟨S3, x3, r3⟩ := hy x H3 hyx
        have o3 := o2.ext x3
        refine ⟨β, _, S3, ρ2, ds[i], o3, r3, ?_⟩
        unfold compLoop compTurn at p2
        cases q1 : gd ds[i] ρ2 with
        | none => rw [q1] at p2; exact p2.elim
        | some ρ3 =>
          rw [q1] at p2
          dsimp only at p2 ⊢
          intro σ3 o4 ew
          have ew' : L2.wipe σ3 vs = L2.wipe σ vs := by
            rw [ew]
            apply List.ext_getElem?
            intro j
            by_cases hj : j ∈ vs
            · by_cases hl : j < σ.length
              · rw [wipe_in hj hl, wipe_in hj (by rw [wipe_length]; exact hl)]
              · rw [List.getElem?_eq_none (by rw [wipe_length, wipe_length]; omega), List.getElem?_eq_none (by rw [wipe_length]; omega)]
            · rw [wipe_out' hj]
          refine ⟨ew', β, _, S3, ρ3, o4, ?_⟩
          revert p2
          cases ft ρ3 with
          | bad => exact fun p2 => p2
          | err x ρ4 => exact fun p2 => p2.elim
          | ok k ρ4 =>
            intro p2 S4 H4 kk e4 o5 hk
            subst hk
            dsimp only [R.bind] at p2
            cases k with
            | false =>
              refine iteF ⟨S4, wipeR ρ4 vs, acc, us, (e2.trans x3.s).trans e4, ?_, Rps.mono (x3.s.trans e4) _ _ ra, p2⟩
              have := o5.wipe vs
              rw [ew'] at this; exact this
            | true =>
              refine iteT ⟨β, _, S4, ρ4, o5, ?_⟩
              rw [if_pos rfl] at p2
              revert p2
              cases fe ρ4 with
              | bad => exact fun p2 => p2
              | err x ρ5 => exact fun p2 => p2.elim
              | ok v ρ5 =>
                intro p2 S5 H5 u e5 o6 hv
                dsimp only [R.bind] at p2
                cases v with
                | sl j => exact p2.elim
                | d y =>
                  dsimp only at p2
                  by_cases hfit : fits (acc.length + 1) = true
                  case neg => rw [if_neg hfit] at p2; exact p2.elim
                  rw [if_pos hfit] at p2
                  have hH : H5 p0 = some (.lst us) := o6.gh p0 _ upd_same
                  have rall := Rps.mono (x3.s.trans (e4.trans e5)) _ _ ra
                  refine ⟨us, hH, ?_, S5, wipeR ρ5 vs, acc ++ [y], us ++ [u], ((e2.trans x3.s).trans e4).trans e5, ?_, rall.append (Rps.one hv), p2⟩
                  · rw [rall.len]; exact Nat.lt_of_succ_le (fits_line hfit)
                  · have o7 := (o6.reguard (u' := .lst (us ++ [u])) hG0).wipe vs
                    rw [ew'] at o7; exact o7
    · have e : i = ds.length := by omega
      subst e
      rw [List.drop_length] at p2
      refine .inl ⟨(wk S2 H2 e2 o2.sh _).2 rfl, ?_⟩
      obtain ⟨o3, fr, hv⟩ := o2.unguard hG0
      have ob := o1.back o3 e2 hpl'
      refine p2 S2 H2 p0 us e2 ob ⟨fr.s, fr.g, fr.b, fun j xs q z => ?_, fun j l q z => ?_, fun j l q z => ?_⟩ hv ra
      · by_cases hj : j ∈ vs
        · have hl : j < ρ2.length := by have := (List.getElem?_eq_some_iff.mp q).1; rwa [backR_len] at this
          rw [backR_in hj hl] at q
          have := hpl' j hj
          rw [Option.some.inj q] at this; cases this
        · rw [backR_out hj] at q
          exact fr.sl j xs q (by rw [wipe_out' hj]; exact z)
      · by_cases hj : j ∈ vs
        · have hl : j < ρ2.length := by have := (List.getElem?_eq_some_iff.mp q).1; rwa [backR_len] at this
          rw [backR_in hj hl] at q
          have := hpl' j hj
          rw [Option.some.inj q] at this; cases this
        · rw [backR_out hj] at q
          exact fr.sk j l q (by rw [wipe_out' hj]; exact z)
      · by_cases hj : j ∈ vs
        · have hl : j < ρ2.length := by have := (List.getElem?_eq_some_iff.mp q).1; rwa [backR_len] at this
          rw [backR_in hj hl] at q
          have := hpl' j hj
          rw [Option.some.inj q] at this; cases this
        · rw [backR_out hj] at q
          exact fr.skt j l q (by rw [wipe_out' hj]; exact z)
end
end Lq
namespace Lq
open PySem PySem.Spec PyProof.Rows L2
section
variable {X : Cx} {T : Tb} {W : WX} {e elt tg iter : Expr} {es ifs : List Expr} {fi : Rho → R (List D)} {gd : D → Rho → Option Rho} {ft : Rho → R Bool} {fe : Rho → R VD} {pos : Pos} {own : List (Str × Nat)} {scope : Scope}
theorem xf_lc (hc : X.calm = true) (hN : X.N.Nodup) (hi : XI X T W tg iter fi) (ok : BlkOk X.N X.env.scope scope own)
    (hg : ∀ (s : Shared) (H : Hp) (C : Addr) (cl : List (Str × Addr)) (fp : List Addr), XGo (X.blk s H scope (compEnvC scope cl C X.env) fp) T (own.map (·.2)) tg gd)
    (ht : ∀ (s : Shared) (H : Hp) (C : Addr) (cl : List (Str × Addr)) (fp : List Addr), XTs (X.blk s H scope (compEnvC scope cl C X.env) fp) T W0 ifs ft)
    (he : ∀ (s : Shared) (H : Hp) (C : Addr) (cl : List (Str × Addr)) (fp : List Addr), XE (X.blk s H scope (compEnvC scope cl C X.env) fp) T W0 elt fe) (hs : ∀ x, foldedSetIterable iter X.env x = pure x := by intro _; rfl) :
    XF X T W (.ListComp elt [⟨tg, iter, ifs, 0⟩] scope pos) (compF (own.map (·.2)) fi gd ft fe) :=
  (pe_lc (g := rGo X.K T (own.map (fun p : Str × Nat => p.2)) gd) (tt := rT X.K T W0 ft) (te := rE X.K T W0 fe) hc hN hi ok hg ht he hs).impQ fun σ H Q h => tLc_of h
/-- y = [..] -/
theorem xs_setLc (i : Nat) {y : Str} {py spos : Pos} (hc : X.calm = true) (hN : X.N.Nodup) (hi : XI X T W tg iter fi) (ok : BlkOk X.N X.env.scope scope own)
    (hg : ∀ (s : Shared) (H : Hp) (C : Addr) (cl : List (Str × Addr)) (fp : List Addr), XGo (X.blk s H scope (compEnvC scope cl C X.env) fp) T (own.map (·.2)) tg gd)
    (ht : ∀ (s : Shared) (H : Hp) (C : Addr) (cl : List (Str × Addr)) (fp : List Addr), XTs (X.blk s H scope (compEnvC scope cl C X.env) fp) T W0 ifs ft)
    (he : ∀ (s : Shared) (H : Hp) (C : Addr) (cl : List (Str × Addr)) (fp : List Addr), XE (X.blk s H scope (compEnvC scope cl C X.env) fp) T W0 elt fe)
    (hsw : swapsWith (.ListComp elt [⟨tg, iter, ifs, 0⟩] scope pos) (some (.Name y py)) spos.line X.env = pure true)
    (hy : X.N[i]? = some y := by rfl) (hyl : X.env.scope.names.lookup y = some .local := by rfl) (hs : ∀ x, foldedSetIterable iter X.env x = pure x := by intro _; rfl) :
    XS X T W (.Assign [.Name y py] (.ListComp elt [⟨tg, iter, ifs, 0⟩] scope pos) spos) (asgS i (frzE (compF (own.map (·.2)) fi gd ft fe))) :=
  (ps_setLc (g := rGo X.K T (own.map (fun p : Str × Nat => p.2)) gd) (tt := rT X.K T W0 ft) (te := rE X.K T W0 fe) hc hN hy hyl hsw hi ok hg ht he hs).impQ fun De σ H q => by
    obtain ⟨β, G, S, ρ, o, p⟩ := q
    refine tLc_of ⟨β, G, S, ρ, o, ?_⟩
    unfold asgS frzE at p
    revert p
    cases compF (own.map (·.2)) fi gd ft fe ρ with
    | bad => exact fun p => p
    | err x ρ1 => exact fun p S1 H1 c d e o q => p S1 σ H1 c d e o q
    | ok ds ρ1 => exact fun p S1 H1 q vs e o' fr hv r => p (upd S1 q (.lst vs)) _ H1 (e.trans (same_new fr.s)) ((o'.freeze fr hv).setD ⟨q, vs, rfl, upd_same, Rps.mono (same_new fr.s) _ _ r⟩)
end
/-! ### defs -/
def GvR (K : PySem.W.Frag) (T : Tb) (S H : Hp) (r : Res) (Q : VK) (E : XK) : Prop := match r with
  | .ok d => Gv K T S H d Q
  | .err x => ∀ S' H' c d, Ext T S H S' H' → XR K T S' x c d → E c d H'
  | .bad => False
/-- a def over plain data: n arguments -/
def spP (K : PySem.W.Frag) (T : Tb) (n : Nat) (F : List D → Res) : Sp := fun vs H Q E => ∃ S ds, SameT T S H ∧ Rps K T S ds vs ∧ ds.length = n ∧ GvR K T S H (F ds) Q E
def startR (n : Nat) (ds : List D) : Rho := ds.map .d ++ List.replicate (n - ds.length) .no
def runF (a n : Nat) (f : Rho → O) (ds : List D) : Res := if ds.length = a then (match f (startR n ds) with
  | .nx _ => .ok .non
  | .rt v ρ => (match v with
    | .d x => .ok x
    | .sl i => (match ρ[i]? with | some (.m xs) => .ok (.lst xs) | _ => .bad))
  | .rf ds _ => .ok (.lst ds)
  | .err x _ => .err x
  | _ => .bad) else .bad
theorem runF_len {a n : Nat} {f : Rho → O} (ds : List D) (h : runF a n f ds ≠ .bad) : ds.length = a := by
  unfold runF at h
  split at h
  · assumption
  · exact (h rfl).elim
section
variable {K : PySem.W.Frag} {T : Tb} {S S' H : Hp}
theorem start_cell : ∀ {ds : List D} {vs : List V} {n k i : Nat} {c : Cell}, Rps K T S ds vs → (ds.map Cell.d ++ List.replicate k .no)[i]? = some c → ∀ {β : Bt} {G : Hp}, CellOk K T β G S H (vs.map some ++ List.replicate n none)[i]? c
  | [], vs, n, k, i, c, h, e, β, G => by
    have hc : c = .no := by
      simp only [List.map_nil, List.nil_append] at e
      exact (List.mem_replicate.mp (List.mem_of_getElem? e)).2
    subst hc; trivial
  | d :: ds, vs, n, k, 0, c, ⟨v, r, e1, h, hs⟩, e, β, G => by
    simp at e; subst e; rw [e1]; exact ⟨v, rfl, h⟩
  | d :: ds, vs, n, k, i + 1, c, ⟨v, r, e1, h, hs⟩, e, β, G => by
    rw [e1]
    have := start_cell (n := n) (k := k) (i := i) (c := c) hs (by simpa using e) (β := β) (G := G)
    simpa using this
theorem start_noM {ds : List D} {k i : Nat} {xs : List D} (h : (ds.map Cell.d ++ List.replicate k .no)[i]? = some (.m xs)) : False := by
  have hm := List.mem_of_getElem? h
  rcases List.mem_append.mp hm with h1 | h1
  · obtain ⟨d, _, e⟩ := List.mem_map.mp h1; cases e
  · have := (List.mem_replicate.mp h1).2; cases this
/-- what stands beside S in H -/
def besides (S H : Hp) : Hp := fun b => match S b with | some _ => none | none => H b
theorem besides_same {S H : Hp} : Same (besides S H) H := .of fun b o e => by
  unfold besides at e
  split at e
  · cases e
  · exact e
theorem besides_apart {S H : Hp} {b : Addr} {o : HO} (e : besides S H b = some o) : S b = none := by
  unfold besides at e
  split at e
  · cases e
  · assumption
theorem besides_of {S H : Hp} {b : Addr} {o : HO} (e : H b = some o) (n : S b = none) : besides S H b = some o := by
  unfold besides; rw [n]; exact e
theorem ext_of {T : Tb} {S H S' H' : Hp} (h0 : SameT T S H) (e : Same S S') (sh : SameT T S' H') (gh : Same (besides S H) H') (gs : ∀ b o, besides S H b = some o → NoT o → S' b = none) : Ext T S H S' H' where
  s := e
  h := ⟨fun b o q n => by
    cases z : S b with
    | none => exact gh.at_ b o (besides_of q z) n
    | some u =>
      have nu : NoTb u := fun ps w => by
        subst w
        obtain ⟨qs, w⟩ := h0.tb b ps z
        rw [q] at w; cases w; exact n qs rfl
      have := h0.at_ b u z nu; rw [q] at this; cases this; exact sh.at_ b _ (e.at_ b _ z n) n, fun b ps q => by
    cases z : S b with
    | none => exact gh.tb b ps (besides_of q z)
    | some u =>
      by_cases nu : ∃ qs, u = .tbl qs
      · obtain ⟨qs, rfl⟩ := nu
        obtain ⟨rs, w⟩ := e.tb b qs z
        exact sh.tb b rs w
      · have := h0.at_ b u z fun qs w => nu ⟨qs, w⟩
        rw [q] at this; cases this; exact (nu ⟨ps, rfl⟩).elim⟩
  sh := sh
  fr := fun b o q n z => gs b o (besides_of q z) n
end
section
variable {P : Program} {w : World} {K : PySem.W.Frag} {mg : Str → Option Value} {base : Heap} {T : Tb}
/-- THE RULE for a def over plain data -/
theorem fn_pure {x qual : Str} {st : Stmt} {f : Addr} {fd : FuncData} {N ps : List Str} {k : Nat} {g : Rho → O} (F : Fun K x qual st f fd) (Sc : FnScope N ps (defScope st)) (hlen : ps.length ≤ N.length)
    (hbody : ∀ (cdv : Value) (A : Around) (outer : List PySem.Env) (s : Shared) (H : Hp) (E : XK), Room k (A.deeper (envOfC qual (defScope st) s.heap.objs.size f cdv)) →
      Takes (cxOf (L2.CX P w) P w K mg base N qual (defScope st) f cdv A outer s H E) (fun c d _ H' => E c d H') →
      PassesOwn (model P w) (cxOf (L2.CX P w) P w K mg base N qual (defScope st) f cdv A outer s H E).A (cxOf (L2.CX P w) P w K mg base N qual (defScope st) f cdv A outer s H E).env (cxOf (L2.CX P w) P w K mg base N qual (defScope st) f cdv A outer s H E).xe →
      XB (cxOf (L2.CX P w) P w K mg base N qual (defScope st) f cdv A outer s H E) T (fun c d _ H' => E c d H') (defBody st) g) :
    FnOk P w K mg base (L2.CX P w) (k + 1) f fd ps (spP K T ps.length (runF ps.length N.length g)) := by
  refine F.okX Sc (fun vs H Q E h => ?_) (fun cdv A outer s H vs Q E hr h => ?_)
  · obtain ⟨S, ds, e, r, hl, _⟩ := h
    rw [r.len, hl]
  · obtain ⟨S, ds, e, r, hl, p⟩ := h
    refine ⟨_, hbody cdv A outer s H E hr (takes_of rfl rfl rfl rfl) (passes_of rfl), .no, besides S H, S, startR N.length ds, ?_, ?_⟩
    · refine ⟨e, besides_same, fun b o q _ => besides_apart q, fun b q => (nomatch q), fun b q => (nomatch q), ?_, fun i c q => start_cell r q, fun i j xs ys q => (start_noM q).elim⟩
      unfold L2.start startR
      rw [List.length_append, List.length_append, List.length_map, List.length_map, List.length_replicate, List.length_replicate, r.len]
    · have fin : ∀ {S' σ' ρ' H'}, Same S S' → Ok K T .no (besides S H) S' σ' ρ' H' → Ext T S H S' H' := fun e1 o => ext_of e e1 o.sh o.gh o.gs
      unfold runF at p
      rw [if_pos hl] at p
      revert p
      cases g (startR N.length ds) with
      | nx ρ' => exact fun p S' σ' H' e1 o => p S' H' .non (fin e1 o) rfl
      | rt v ρ' =>
        intro p S' σ' H' u e1 o hv
        cases v with
        | d x => exact p S' H' u (fin e1 o) hv
        | sl i =>
          dsimp only at p
          split at p
          · rename_i xs q
            obtain ⟨a, vs', e2, e3, e4, r', o2⟩ := o.frzSlot q
            have : σ'[i]? = some (some u) := hv
            rw [e2] at this; cases this
            exact p _ H' (.ref a) (fin (e1.trans (same_new e4)) o2) ⟨a, vs', rfl, upd_same, Rps.mono (same_new e4) _ _ r'⟩
          · exact p.elim
      | err x ρ' => exact fun p S' σ' H' c d e1 o hx => p S' H' c d (fin e1 o) hx
      | rf ds' ρ' => exact fun p S' σ' H' a vs' e1 o fr hv r' => p _ H' (.ref a) (fin (e1.trans (same_new fr.s)) (o.freeze fr hv)) ⟨a, vs', rfl, upd_same, Rps.mono (same_new fr.s) _ _ r'⟩
      | bk ρ' => exact fun p => p.elim
      | ct ρ' => exact fun p => p.elim
      | bad => exact fun p => p.elim
end
theorem fn_bad {P : Program} {w : World} {K : PySem.W.Frag} {mg : Str → Option Value} {base : Heap} {T : Tb} {x qual : Str} {st : Stmt} {f : Addr} {fd : FuncData} {N ps : List Str} {k : Nat} (F : Fun K x qual st f fd) (Sc : FnScope N ps (defScope st)) :
    FnOk P w K mg base (L2.CX P w) (k + 1) f fd ps (spP K T ps.length (fun _ => .bad)) := by
  refine F.okX Sc (fun vs H Q E h => ?_) (fun cdv A outer s H vs Q E hr h => ?_)
  · obtain ⟨S, ds, e, r, hl, p⟩ := h
    exact p.elim
  · obtain ⟨S, ds, e, r, hl, p⟩ := h
    exact p.elim
/-! ### calls -/
def D.flat : D → Bool
  | .non => true
  | .bl _ => true
  | .int _ => true
  | .str _ => true
  | _ => false
def slotted : List VD → Bool
  | [] => false
  | .d _ :: vs => slotted vs
  | .sl _ :: _ => true
mutual
/-- no list in it, at any depth -/
def D.noL : D → Bool
  | .lst _ => false
  | .scr _ => false
  | .tup xs => noLs xs
  | .obj _ xs => noLs xs
  | _ => true
def noLs : List D → Bool
  | [] => true
  | d :: ds => d.noL && noLs ds
end
/-- the slots' own lists among some values become plain data -/
def frzAll : List VD → Rho → Option Rho
  | [], ρ => some ρ
  | .d _ :: vs, ρ => frzAll vs ρ
  | .sl i :: vs, ρ => match ρ[i]? with
    | some (.m xs) => frzAll vs (ρ.set i (.d (.lst xs)))
    | _ => none
def callE (F : List D → Res) (fs : Rho → R (List VD)) : Rho → R VD := fun ρ => (fs ρ).bind fun vs ρ1 => match resAll vs ρ1 with
  | some ds => (match F ds with
    | .ok d => if slotted vs && !d.noL then (match frzAll vs ρ1 with | some ρ2 => .ok (.d d) ρ2 | none => .bad) else .ok (.d d) ρ1
    | .err x => if slotted vs && !(noLs x.fs) then .bad else .err x ρ1
    | .bad => .bad)
  | none => .bad
section
variable {K : PySem.W.Frag} {T : Tb} {W : WX} {β : Bt} {G S S' H : Hp} {σ : L2.St} {ρ : Rho}
theorem Rp.flat {d : D} {v : V} (h : d.flat = true) (r : Rp K T S d v) (S' : Hp) : Rp K T S' d v := by
  cases d with
  | lst _ => cases h
  | tup _ => cases h
  | obj _ _ => cases h
  | scr _ => cases h
  | _ => exact r
theorem Rps.flat : ∀ {ds : List D} {vs : List V}, (ds.all D.flat) = true → Rps K T S ds vs → ∀ S', Rps K T S' ds vs
  | [], _, _, r, _ => r
  | d :: ds, _, h, ⟨v, r, e1, h1, hs⟩, S' => by
    rw [List.all_cons, Bool.and_eq_true] at h
    exact ⟨v, r, e1, h1.flat h.1 S', Rps.flat h.2 hs S'⟩
/-- all of S' but lists -/
def ButL (S S' : Hp) : Prop := ∀ b o, S b = some o → (∀ vs, o ≠ .lst vs) → S' b = some o
theorem ButL.tup {a : Addr} {xs : List V} (e : ButL S S') (h : SqT K S a xs) : SqT K S' a xs := by
  rcases h with h | h
  · rcases h with h | ⟨o, h⟩
    · exact .inl (.inl (e _ _ h fun _ z => by cases z))
    · exact .inl (.inr ⟨o, e _ _ h fun _ z => by cases z⟩)
  · exact .inr h
theorem ButL.ob {t : Nat} {a : Addr} {vs : List V} (e : ButL S S') (h : OB T S t a vs) : OB T S' t a vs := by
  rcases h with ⟨h, dd, h1, h2⟩ | ⟨h, dd, h1, h2⟩ | h | ⟨h, o, kvs, h1, h2⟩ | ⟨h, o, h1, h2⟩
  · exact .inl ⟨h, dd, e _ _ h1 (fun _ z => by cases z), e _ _ h2 (fun _ z => by cases z)⟩
  · exact .inr (.inl ⟨h, dd, e _ _ h1 (fun _ z => by cases z), e _ _ h2 (fun _ z => by cases z)⟩)
  · exact .inr (.inr (.inl h))
  · exact .inr (.inr (.inr (.inl ⟨h, o, kvs, e _ _ h1 (fun _ z => by cases z), h2⟩)))
  · exact .inr (.inr (.inr (.inr ⟨h, o, e _ _ h1 (fun _ z => by cases z), h2⟩)))
mutual
theorem Rp.noL (e : ButL S S') : ∀ (d : D) (v : V), d.noL = true → Rp K T S d v → Rp K T S' d v
  | .non, _, _, h => h
  | .bl _, _, _, h => h
  | .int _, _, _, h => h
  | .str _, _, _, h => h
  | .lst _, _, n, _ => by cases n
  | .scr _, _, n, _ => by cases n
  | .tup ds, _, n, ⟨a, vs, e1, h, hs⟩ => ⟨a, vs, e1, e.tup h, Rps.noL e ds vs n hs⟩
  | .obj _ ds, _, n, ⟨a, vs, e1, h, hs⟩ => ⟨a, vs, e1, e.ob h, Rps.noL e ds vs n hs⟩
theorem Rps.noL (e : ButL S S') : ∀ (ds : List D) (vs : List V), noLs ds = true → Rps K T S ds vs → Rps K T S' ds vs
  | [], _, _, h => h
  | d :: ds, _, n, ⟨v, r, e1, h, hs⟩ => ⟨v, r, e1, Rp.noL e d v (Bool.and_eq_true_iff.1 n).1 h, Rps.noL e ds r (Bool.and_eq_true_iff.1 n).2 hs⟩
end
theorem frzAll_ne {i : Nat} {y : D} : ∀ {vs : List VD} {ρ ρ2 : Rho}, ρ[i]? = some (.d y) → frzAll vs ρ = some ρ2 → ∀ j, VD.sl j ∈ vs → j ≠ i
  | [], _, _, _, _, _, hj => by cases hj
  | .d x :: vs, ρ, ρ2, hi, h, j, hj => by
    rcases List.mem_cons.1 hj with z | hj
    · cases z
    · exact frzAll_ne hi (show frzAll vs ρ = some ρ2 from h) j hj
  | .sl k :: vs, ρ, ρ2, hi, h, j, hj => by
    unfold frzAll at h
    split at h
    · rename_i xs q
      have hk : k ≠ i := fun z => by subst z; rw [hi] at q; cases q
      rcases List.mem_cons.1 hj with z | hj
      · cases z; exact hk
      · exact frzAll_ne (ρ := ρ.set k (.d (.lst xs))) (by rw [List.getElem?_set_ne hk]; exact hi) h j hj
    · cases h
theorem resAll_out {i : Nat} {c : Cell} {ρ : Rho} : ∀ {vs : List VD}, (∀ j, VD.sl j ∈ vs → j ≠ i) → resAll vs (ρ.set i c) = resAll vs ρ
  | [], _ => rfl
  | .d x :: vs, h => by
    have := resAll_out (c := c) (ρ := ρ) (vs := vs) fun j hj => h j (List.mem_cons_of_mem _ hj)
    simp only [resAll, res, this]
  | .sl k :: vs, h => by
    have := resAll_out (c := c) (ρ := ρ) (vs := vs) fun j hj => h j (List.mem_cons_of_mem _ hj)
    have hk : k ≠ i := h k List.mem_cons_self
    simp only [resAll, res, this, List.getElem?_set_ne (Ne.symm hk)]
theorem Ok.frzAll : ∀ {vs : List VD} {us : List V} {ds : List D} {ρ ρ2 : Rho} {S : Hp}, Ok K T β G S σ ρ H → RpVs K T σ S vs us → Lq.resAll vs ρ = some ds → Lq.frzAll vs ρ = some ρ2 → ∃ S2, Same S S2 ∧ Ok K T β G S2 σ ρ2 H ∧ Rps K T S2 ds us
  | [], us, ds, ρ, ρ2, S, o, h, e, f => by
    simp only [Lq.resAll, Option.some.injEq] at e
    simp only [Lq.frzAll, Option.some.injEq] at f
    subst e; subst f
    exact ⟨S, Same.refl _, o, h⟩
  | .d x :: vs, us, ds, ρ, ρ2, S, o, ⟨u, r, e1, h, h2⟩, e, f => by
    simp only [Lq.resAll, Lq.res] at e
    split at e
    · rename_i a b q1 q2
      cases q1
      cases e
      obtain ⟨S2, s2, o2, r2⟩ := Ok.frzAll o h2 q2 (show Lq.frzAll vs ρ = some ρ2 from f)
      exact ⟨S2, s2, o2, u, r, e1, Rp.mono s2 _ _ h, r2⟩
    · cases e
  | .sl i :: vs, us, ds, ρ, ρ2, S, o, ⟨u, r, e1, h, h2⟩, e, f => by
    unfold Lq.frzAll at f
    split at f
    · rename_i xs q
      obtain ⟨a, ws, e2, e3, e4, r5, o2⟩ := o.frzSlot q
      have hu : σ[i]? = some (some u) := h
      rw [e2] at hu; cases hu
      have hl : i < ρ.length := (List.getElem?_eq_some_iff.mp q).1
      have hne := frzAll_ne (i := i) (y := .lst xs) (ρ := ρ.set i (.d (.lst xs))) (List.getElem?_set_self hl) f
      simp only [Lq.resAll, Lq.res, q] at e
      split at e
      · rename_i a' b q1 q2
        cases q1
        cases e
        obtain ⟨S2, s2, o3, r3⟩ := Ok.frzAll o2 (RpVs.mono (same_new e4) h2) ((resAll_out hne).trans q2) f
        exact ⟨S2, (same_new e4).trans s2, o3, .ref a, r, e1, ⟨a, ws, rfl, s2 _ _ upd_same, Rps.mono ((same_new e4).trans s2) _ _ r5⟩, r3⟩
      · cases e
    · cases f
theorem unslot : ∀ {vs : List VD} {us : List V} {ds : List D}, slotted vs = false → RpVs K T σ S vs us → resAll vs ρ = some ds → Rps K T S ds us
  | [], _, _, _, h, e => by simp only [resAll, Option.some.injEq] at e; subst e; exact h
  | .d x :: vs, _, _, hs, ⟨u, r, e1, h, h2⟩, e => by
    simp only [resAll, res] at e
    split at e
    · rename_i a b q1 q2
      cases q1
      cases e
      exact ⟨u, r, e1, h, unslot (show slotted vs = false from hs) h2 q2⟩
    · cases e
  | .sl _ :: _, _, _, hs, _, _ => by cases hs
/-- S with the slots' own lists -/
def withSlots (S H : Hp) (us : List V) : Hp := fun b => match S b with
  | some o => some o
  | none => if V.ref b ∈ us then (match H b with | some (.lst vs) => some (.lst vs) | _ => none) else none
theorem ws_same {us : List V} : Same S (withSlots S H us) := .of fun b o e => by unfold withSlots; rw [e]
theorem ws_sub {us : List V} (e : SameT T S H) : SameT T (withSlots S H us) H := e.step (Keep.refl _) fun b o q => by
  unfold withSlots at q
  split at q
  · rename_i u z
    cases q; exact .inr ⟨z, rfl⟩
  · split at q
    · split at q
      · rename_i vs z; cases q; exact .inl z
      · cases q
    · cases q
theorem withSlots_rps {us0 : List V} (o : Ok K T β G S σ ρ H) : ∀ {vs : List VD} {us : List V} {ds : List D}, (∀ u ∈ us, u ∈ us0) → RpVs K T σ S vs us → resAll vs ρ = some ds → Rps K T (withSlots S H us0) ds us
  | [], _, _, _, h, e => by simp only [resAll, Option.some.injEq] at e; subst e; exact h
  | v :: vs, _, _, hm, ⟨u, r, e1, h, h2⟩, e => by
    simp only [resAll] at e
    split at e
    · rename_i a b q1 q2
      cases e
      refine ⟨u, r, e1, ?_, withSlots_rps o (fun z hz => hm z (by rw [e1]; exact List.mem_cons_of_mem _ hz)) h2 q2⟩
      have hu : u ∈ us0 := hm u (by rw [e1]; exact List.mem_cons_self)
      rcases o.res h q1 with h3 | ⟨p, ws, xs, e3, e4, e5, r5⟩
      · exact Rp.mono ws_same _ _ h3
      · subst e3; subst e4
        refine ⟨p, ws, rfl, ?_, Rps.mono ws_same _ _ r5⟩
        unfold withSlots
        split
        · rename_i o' z
          have := o.sh.eq z e5
          subst this; rfl
        · rw [if_pos hu, e5]
    · cases e
/-- behind a call that was given slots: they are slots again -/
theorem ext_back {us : List V} {S' H' : Hp} (h0 : SameT T S H) (e : Ext T (withSlots S H us) H S' H') : Ext T S H (fun b => match S b, withSlots S H us b with | none, some _ => none | _, _ => S' b) H' where
  s := (ws_same.trans e.s).step fun b o q => .inr ⟨q, by
    show (match S b, withSlots S H us b with | none, some _ => none | _, _ => S' b) = S' b
    rw [q]⟩
  h := e.h
  sh := e.sh.step (Keep.refl _) fun b o q => by
    have q' : (match S b, withSlots S H us b with | none, some _ => none | _, _ => S' b) = some o := q
    split at q'
    · cases q'
    · exact .inr ⟨q', rfl⟩
  fr := fun b o q nt z => by
    show (match S b, withSlots S H us b with | none, some _ => none | _, _ => S' b) = none
    rw [z]
    cases y : withSlots S H us b with
    | none => exact e.fr b o q nt y
    | some u => rfl
theorem ws_lst {us : List V} {b : Addr} {o : HO} (z : S b = none) (y : withSlots S H us b = some o) : NoTb o := by
  unfold withSlots at y
  rw [z] at y
  simp only at y
  split at y
  · split at y
    · cases y; exact fun _ w => nomatch w
    · cases y
  · cases y
theorem ext_butL {us : List V} {S' H' : Hp} (e : Ext T (withSlots S H us) H S' H') : ButL S' (fun b => match S b, withSlots S H us b with | none, some _ => none | _, _ => S' b) := fun b o q n => by
  show (match S b, withSlots S H us b with | none, some _ => none | _, _ => S' b) = some o
  split
  · rename_i o' z y
    have z2 := e.s.at_ b o' y (ws_lst z y)
    rw [q] at z2
    cases z2
    unfold withSlots at y
    rw [z] at y
    dsimp only at y
    split at y
    · split at y
      · cases y; exact (n _ rfl).elim
      · cases y
    · cases y
  · exact q
end
section
variable {X : Cx} {T : Tb} {W : WX} {e : Expr} {es : List Expr} {fs : Rho → R (List VD)} {pos : Pos}
theorem call_of {K : PySem.W.Frag} {F : List D → Res} {n : Nat} {σ : L2.St} {H : Hp} {Q : VK} (hn : ∀ ds, F ds ≠ .bad → ds.length = n) (h : rE K T W (callE F fs) σ H Q) : tCallS (spP K T n F) (WE W) (rA K T W fs) σ H Q := by
  obtain ⟨β, G, S, ρ, o, p⟩ := h
  refine ⟨β, G, S, ρ, o, Post.thn (Rl := RpVs K T σ) p fun S1 H1 ρ1 vs us e1 o1 h1 p1 => ?_⟩
  split at p1
  case h_2 => exact p1.elim
  case h_1 ds q =>
  cases hs : slotted vs with
  | false =>
    refine ⟨S1, ds, o1.sh, unslot hs h1 q, hn ds (fun z => by rw [z] at p1; exact p1), ?_⟩
    rw [hs] at p1
    revert p1
    cases F ds with
    | ok d => exact fun p1 => p1.gv o1
    | err x => exact fun p1 S2 H2 c d e2 hx => p1 S2 H2 c d e2.s (o1.ext e2) hx
    | bad => exact fun p1 => p1
  | true =>
    have hb : ds.length = n := hn ds (fun z => by rw [z] at p1; exact p1)
    rw [hs] at p1
    revert p1
    cases hF : F ds with
    | ok d =>
      intro p1
      dsimp only at p1
      cases hL : d.noL with
      | false =>
        rw [hL] at p1
        simp only [Bool.not_false, Bool.and_self, if_true] at p1
        split at p1
        · rename_i ρ2 f
          obtain ⟨S2, s2, o2, r2⟩ := Ok.frzAll o1 h1 q f
          refine ⟨S2, ds, o2.sh, r2, hb, ?_⟩
          rw [hF]
          exact (p1.mono s2).gv o2
        · exact p1.elim
      | true =>
        rw [hL] at p1
        refine ⟨withSlots S1 H1 us, ds, ws_sub o1.sh, withSlots_rps o1 (fun _ hz => hz) h1 q, hb, ?_⟩
        rw [hF]
        intro S2 H2 v e2 r2
        have e3 := ext_back o1.sh e2
        exact p1 _ H2 v e3.s (o1.ext e3) (Rp.noL (ext_butL e2) _ _ hL r2)
    | err x =>
      intro p1
      dsimp only at p1
      cases hL : noLs x.fs with
      | false =>
        rw [hL] at p1
        exact p1.elim
      | true =>
        rw [hL] at p1
        refine ⟨withSlots S1 H1 us, ds, ws_sub o1.sh, withSlots_rps o1 (fun _ hz => hz) h1 q, hb, ?_⟩
        rw [hF]
        intro S2 H2 c d e2 hx
        have e3 := ext_back o1.sh e2
        obtain ⟨h3, dd, ws, h4, h5, h6⟩ := hx
        exact p1 _ H2 c d e3.s (o1.ext e3) ⟨h3, dd, ws, h4, ext_butL e2 _ _ h5 (fun _ z => by cases z), Rps.noL (ext_butL e2) _ _ hL h6⟩
    | bad => exact fun p1 => p1.elim
/-- f(e, ..) -/
theorem xe_call {F : List D → Res} {k : Nat} {f : Addr} {fd : FuncData} {ps : List Str} {n : Nat} {x : Str} {p : Pos} (Fk : FnOk X.prog X.w X.K X.mg X.base (L2.CX X.prog X.w) k f fd ps (spP X.K T n F)) (hr : Room k X.A) (hm : X.mg x = some (.ref f)) (hk : PySem.W.keepIn X.K (.ref f) = true) (hb : Binds X.K fd ps [])
    (tk : Takes X W) (hn : ∀ ds, F ds ≠ .bad → ds.length = n) (ha : XA X T W (e :: es) fs) (hg : L2.Gl X x := by rfl) (hdb : (x == ("__debug__" : Str)) = false := by decide) (he : starEach (e :: es) X.env = (false, eval e X.env) :: starEach es X.env := by rfl) (hpl : (backTo pos (starEach es X.env)).any (·.1) = false := by rfl) :
    XE X T W (.Call (.Name x p) (e :: es) [] pos) (callE F fs) :=
  (pe_callS Fk hr hg hm hk hb (fun σ => passAt tk σ) ha hdb he hpl).impQ fun _ _ _ h => call_of hn h
end
end Lq
namespace Lq
open PySem PySem.Spec PyProof.Rows L2
/-! ### operations over data -/
def addD : D → D → Option D
  | .int i, .int j => some (.int (i + j))
  | .str a, .str b => if fits (a.length + b.length) then some (.str (a ++ b)) else none
  | .lst xs, .lst ys => if fits (xs.length + ys.length) then some (.lst (xs ++ ys)) else none
  | .tup xs, .tup ys => if fits (xs.length + ys.length) then some (.tup (xs ++ ys)) else none
  | _, _ => none
def catF : D → D → Option (List D)
  | .lst xs, .lst ys => if fits (xs.length + ys.length) then some (xs ++ ys) else none
  | _, _ => none
def subD : D → D → Option D
  | .int i, .int j => some (.int (i - j))
  | _, _ => none
def big (i : Int) : Bool := Nat.ble i.natAbs 18446744073709551615
def mulD : D → D → Option D
  | .int i, .int j => if big i || big j then some (.int (i * j)) else none
  | .lst xs, .int k => if decide (0 ≤ k) && (decide (k ≤ 1000) && decide (xs.length ≤ 1000)) then some (.lst (List.replicate k.toNat xs).flatten) else none
  | .tup xs, .int k => if !xs.isEmpty && (decide (2 ≤ k) && (decide (k ≤ 1000) && decide (xs.length ≤ 1000))) then some (.tup (List.replicate k.toNat xs).flatten) else none
  | .str x, .int k => if decide (2 ≤ k) && (decide (k ≤ 1000) && (decide (0 < x.length) && decide (x.length ≤ 1000))) then some (.str ⟨(List.replicate k.toNat x.cps).foldl (· ++ ·) #[]⟩) else none
  | _, _ => none
def fdivD : D → D → Option D
  | .int i, .int j => if decide (0 < j) && decide (j < 1073741824) then some (.int (i / j)) else none
  | _, _ => none
def modD : D → D → Option D
  | .int i, .int j => if decide (0 < j) then some (.int (i % j)) else none
  | _, _ => none
def powD : D → D → Option D
  | .int i, .int j => if decide (0 ≤ j) && (decide (j ≤ 1000000) && decide (i.natAbs < 2 ^ 64)) then some (.int (i ^ j.toNat)) else none
  | _, _ => none
def negD : D → Option D
  | .int i => some (.int (-i))
  | _ => none
def ltD : D → D → Option D
  | .int i, .int j => some (.bl (decide (i < j)))
  | .str i, .str j => some (.bl (decide (i.cps.toList < j.cps.toList)))
  | _, _ => none
def leD : D → D → Option D
  | .int i, .int j => some (.bl (decide (i ≤ j)))
  | _, _ => none
def gtD : D → D → Option D
  | .int i, .int j => some (.bl (decide (j < i)))
  | _, _ => none
def geD : D → D → Option D
  | .int i, .int j => some (.bl (decide (j ≤ i)))
  | _, _ => none
mutual
def toPy : D → PyData
  | .non => .none
  | .bl b => .bool b
  | .int i => .int i
  | .str s => .str s
  | .lst xs => .list (toPys xs)
  | .tup xs => .tuple (toPys xs)
  | .obj _ _ => .none
  | .scr _ => .none
def toPys : List D → List PyData
  | [] => []
  | x :: xs => toPy x :: toPys xs
end
mutual
def plainD : D → Bool
  | .lst xs => plainDs xs
  | .tup xs => plainDs xs
  | .obj _ _ => false
  | .scr _ => false
  | _ => true
def plainDs : List D → Bool
  | [] => true
  | x :: xs => plainD x && plainDs xs
end
mutual
def deq : D → D → Bool
  | .non, .non => true
  | .bl a, .bl b => a == b
  | .bl a, .int j => (if a then 1 else 0) == j
  | .int i, .bl b => i == (if b then 1 else 0)
  | .int i, .int j => i == j
  | .str x, .str y => x == y
  | .lst xs, .lst ys => deqs xs ys
  | .tup xs, .tup ys => deqs xs ys
  | .obj _ _, .non => true
  | .non, .obj _ _ => true
  | .obj _ _, .obj _ _ => true
  | .scr _, .non => true
  | .non, .scr _ => true
  | .scr _, .scr _ => true
  | .obj _ _, .scr _ => true
  | .scr _, .obj _ _ => true
  | _, _ => false
def deqs : List D → List D → Bool
  | [], [] => true
  | x :: xs, y :: ys => deq x y && deqs xs ys
  | _, _ => false
end
def okQ (d : D) : Bool := plainD d && SeqAt.shaped (toPy d)
def sameKind : D → D → Bool
  | .non, .non => true
  | .bl _, .bl _ => true
  | .int _, .int _ => true
  | .str _, .str _ => true
  | _, _ => false
def eqD (x y : D) : Option D := if sameKind x y || (okQ x && okQ y) then some (.bl (deq x y)) else none
def neD (x y : D) : Option D := if sameKind x y || (okQ x && okQ y) then some (.bl (!deq x y)) else none
mutual
theorem deq_eqv : ∀ x y : D, PyData.eqv (toPy x) (toPy y) = deq x y
  | .non, y => by cases y <;> simp [toPy, PyData.eqv, deq]
  | .bl a, y => by cases y <;> simp [toPy, PyData.eqv, deq]
  | .int a, y => by cases y <;> simp [toPy, PyData.eqv, deq]
  | .str a, y => by cases y <;> simp [toPy, PyData.eqv, deq]
  | .lst xs, y => by
    cases y with
    | lst ys => simp only [toPy, PyData.eqv, deq]; exact deqs_eqv xs ys
    | _ => simp [toPy, PyData.eqv, deq]
  | .tup xs, y => by
    cases y with
    | tup ys => simp only [toPy, PyData.eqv, deq]; exact deqs_eqv xs ys
    | _ => simp [toPy, PyData.eqv, deq]
  | .obj a b, y => by cases y <;> simp [toPy, PyData.eqv, deq]
  | .scr a, y => by cases y <;> simp [toPy, PyData.eqv, deq]
theorem deqs_eqv : ∀ xs ys : List D, PyData.eqvAll (toPys xs) (toPys ys) = deqs xs ys
  | [], [] => by simp [toPys, PyData.eqvAll, deqs]
  | [], _ :: _ => by simp [toPys, PyData.eqvAll, deqs]
  | _ :: _, [] => by simp [toPys, PyData.eqvAll, deqs]
  | x :: xs, y :: ys => by simp only [toPys, PyData.eqvAll, deqs]; rw [deq_eqv x y, deqs_eqv xs ys]
end
section
variable {K : PySem.W.Frag} {T : Tb} {S H : Hp}
mutual
theorem Rp.dp (e : SameT T S H) : ∀ (d : D) (v : V), plainD d = true → Rp K T S d v → Dp K H v (toPy d)
  | .non, _, _, h => by rw [show _ = V.non from h]; exact .non
  | .bl b, _, _, h => by rw [show _ = V.bl b from h]; exact .bl b
  | .int b, _, _, h => by rw [show _ = V.int b from h]; exact .int b
  | .str b, _, _, h => by rw [show _ = V.str b from h]; exact .str b
  | .lst xs, _, hp, ⟨a, vs, e1, q, r⟩ => by rw [e1]; exact .lst (SqL.of (e _ _ q)) (Rps.dp e xs vs hp r)
  | .tup xs, _, hp, ⟨a, vs, e1, q, r⟩ => by rw [e1]; exact .tup (same_tup e q) (Rps.dp e xs vs hp r)
  | .obj _ _, _, hp, _ => by cases hp
  | .scr _, _, hp, _ => by cases hp
theorem Rps.dp (e : SameT T S H) : ∀ (ds : List D) (vs : List V), plainDs ds = true → Rps K T S ds vs → DpAll K H vs (toPys ds)
  | [], _, _, h => by rw [show _ = [] from h]; exact .nil
  | d :: ds, _, hp, ⟨v, r, e1, h, hs⟩ => by
    have hp' : (plainD d && plainDs ds) = true := hp
    rw [Bool.and_eq_true] at hp'
    rw [e1]; exact .cons (Rp.dp e d v hp'.1 h) (Rps.dp e ds r hp'.2 hs)
end
theorem RpH.dp {d : D} {v : V} (h : RpH K T S H d v) (e : SameT T S H) (hp : plainD d = true) : Dp K H v (toPy d) := by
  rcases h with h | ⟨a, vs, xs, rfl, rfl, q, r⟩
  · exact Rp.dp e d v hp h
  · exact .lst (SqL.of q) (Rps.dp e xs vs hp r)
end
section
variable {X : Cx} {T : Tb}
def rAdd4 (K : PySem.W.Frag) : R2 := fun x y H Q => rI0 (fun i j => .int (i + j)) x y H Q ∨ (∃ i j, x = .str i ∧ y = .str j ∧ i.length + j.length ≤ sizeLine ∧ Q (.str (i ++ j)) H) ∨ rCat x y H Q ∨ rCatA K x y H Q
theorem op_addA : OpR X (binaryOp .Add) (rAdd4 X.K) := op_add.or (op_add_str.or (op_cat.or op_catA))
theorem p_add {K : PySem.W.Frag} : Prim2 K T (rAdd4 K) addD := fun S H x y dx dy d Q e hx hy h g => by
  unfold addD at h
  split at h
  · cases h; exact .inl ⟨_, _, hx.int, hy.int, g.now e rfl⟩
  · split at h
    · rename_i hf; cases h; exact .inr (.inl ⟨_, _, hx.str, hy.str, fits_line hf, g.now e rfl⟩)
    · cases h
  · split at h
    · rename_i hf
      cases h
      obtain ⟨a, vs, rfl, q, r⟩ := hx.lst e
      obtain ⟨b, ws, rfl, q', r'⟩ := hy.lst e
      exact .inr (.inr (.inl ⟨a, b, vs, ws, rfl, rfl, q, q', by rw [r.len, r'.len]; exact fits_line hf, fun p hp => g.newL e (r.append r') p hp⟩))
    · cases h
  · split at h
    · rename_i hf
      cases h
      obtain ⟨a, vs, rfl, q, r⟩ := hx.tup e
      obtain ⟨b, ws, rfl, q', r'⟩ := hy.tup e
      refine .inr (.inr (.inr ⟨a, b, vs, ws, rfl, rfl, q, q', by rw [r.len, r'.len]; exact fits_line hf, fun z => ?_, fun _ z => ?_, fun _ _ p hp => g.newT e (r.append r') p hp⟩))
      · rcases hy with hy | ⟨_, _, _, _, ee, _⟩
        · refine g.now e ?_
          have hl := r.len
          rw [z] at hl
          rw [List.length_eq_zero_iff.mp hl.symm, List.nil_append]
          exact hy
        · cases ee
      · rcases hx with hx | ⟨_, _, _, _, ee, _⟩
        · refine g.now e ?_
          have hl := r'.len
          rw [z] at hl
          rw [List.length_eq_zero_iff.mp hl.symm, List.append_nil]
          exact hx
        · cases ee
    · cases h
  · cases h
def rRepS : R2 := fun x y H Q => ∃ z k, x = .str z ∧ y = .int k ∧ 2 ≤ k ∧ k ≤ 1000 ∧ 0 < z.length ∧ z.length ≤ 1000 ∧ Q (.str ⟨(List.replicate k.toNat z.cps).foldl (· ++ ·) #[]⟩) H
theorem rep_size (z : Array Nat) : ∀ (n : Nat) (a : Array Nat), ((List.replicate n z).foldl (· ++ ·) a).size = a.size + z.size * n
  | 0, a => by simp
  | n + 1, a => by
    rw [List.replicate_succ, List.foldl_cons, rep_size z n, Array.size_append, Nat.mul_succ]
    omega
theorem op_repS : OpR X (binaryOp .Mult) rRepS := by
  intro pins s σ H x y v u Q I rx ry h
  obtain ⟨z, k, rfl, rfl, h2, h3, h4, h5, q⟩ := h
  obtain ⟨t, rfl⟩ := rx
  obtain ⟨t', rfl⟩ := ry
  have hz : z.length * k.toNat ≤ 1000000 := Nat.le_trans (Nat.mul_le_mul h5 (show k.toNat ≤ 1000 by omega)) (by decide)
  have hz' : (z.length : Int) * k ≤ 1000000 := by
    have e : ((k.toNat : Nat) : Int) = k := by omega
    have h7 : ((z.length * k.toNat : Nat) : Int) ≤ 1000000 := by omega
    rw [Int.natCast_mul, e] at h7; exact h7
  refine PySem.P.mul_str ?_ (fun _ _ hgt => ?_) (fun _ _ => ?_) ?_
  · rw [decide_eq_false (by omega), decide_eq_false (by omega)]; rfl
  · have h6 : (2 ^ 63 - 1 : Int) / k < z.length := hgt
    have := (Int.ediv_lt_iff_lt_mul (by omega)).mp h6
    omega
  · unfold Builtin.Str.tooLong; exact decide_eq_false (by rw [sizeLine_eq]; omega)
  · rw [if_neg (by omega), if_neg (by
      rw [Bool.or_eq_true]
      rintro (e | e)
      · have := eq_of_beq e; omega
      · have := eq_of_beq e; omega)]
    refine ⟨?_, .str _, H, I.tok _, ⟨_, rfl⟩, q⟩
    show ((List.replicate k.toNat z.cps).foldl (· ++ ·) #[]).size ≤ sizeLine
    rw [rep_size, sizeLine_eq]
    have : (#[] : Array Nat).size + z.cps.size * k.toNat = z.length * k.toNat := by simp [Str.length]
    omega
def rMul3 (K : PySem.W.Frag) : R2 := fun x y H Q => L2.rI CMul (fun i j => .int (i * j)) x y H Q ∨ rRep x y H Q ∨ rRepT K x y H Q ∨ rRepS x y H Q
theorem op_mulA : OpR X (binaryOp .Mult) (rMul3 X.K) := op_mul.or (op_rep.or (op_repT.or op_repS))
theorem Rps.rep {K : PySem.W.Frag} {S : Hp} {ds : List D} {vs : List V} (r : Rps K T S ds vs) : ∀ n : Nat, Rps K T S (List.replicate n ds).flatten (List.replicate n vs).flatten
  | 0 => rfl
  | n + 1 => by rw [List.replicate_succ, List.replicate_succ, List.flatten_cons, List.flatten_cons]; exact r.append (Rps.rep r n)
theorem p_mul {K : PySem.W.Frag} : Prim2 K T (rMul3 K) mulD := fun S H x y dx dy d Q e hx hy h g => by
  unfold mulD at h
  split at h
  · split at h
    · rename_i hb
      cases h
      refine .inl ⟨_, _, hx.int, hy.int, ?_, g.now e rfl⟩
      rw [Bool.or_eq_true] at hb
      rcases hb with hb | hb <;> (unfold big at hb; have hn := Nat.le_of_ble_eq_true hb)
      · exact .inl ⟨by omega, by omega⟩
      · exact .inr ⟨by omega, by omega⟩
    · cases h
  · split at h
    · rename_i hb
      cases h
      simp only [Bool.and_eq_true, decide_eq_true_eq] at hb
      obtain ⟨a, vs, rfl, q, r⟩ := hx.lst e
      refine .inr (.inl ⟨a, _, vs, rfl, hy.int, q, by omega, by omega, ?_, fun p hp => g.newL e (r.rep _) p hp⟩)
      rw [r.len]
      exact Nat.le_trans (Nat.mul_le_mul hb.2.2 (show _ ≤ 1000 by omega)) (by rw [sizeLine_eq]; decide)
    · cases h
  · split at h
    · rename_i hb
      cases h
      simp only [Bool.and_eq_true, decide_eq_true_eq, Bool.not_eq_true', List.isEmpty_eq_false_iff] at hb
      obtain ⟨a, vs, rfl, q, r⟩ := hx.tup e
      refine .inr (.inr (.inl ⟨a, _, vs, rfl, hy.int, q, ?_, hb.2.1, hb.2.2.1, by rw [r.len]; exact hb.2.2.2, fun p hp => g.newT e (r.rep _) p hp⟩))
      intro z
      have hl := r.len
      rw [z] at hl
      exact hb.1 (List.length_eq_zero_iff.mp hl.symm)
    · cases h
  · split at h
    · rename_i hb
      cases h
      simp only [Bool.and_eq_true, decide_eq_true_eq] at hb
      exact .inr (.inr (.inr ⟨_, _, hx.str, hy.int, hb.1, hb.2.1, hb.2.2.1, hb.2.2.2, g.now e rfl⟩))
    · cases h
  · cases h
theorem p_fdiv {K : PySem.W.Frag} : Prim2 K T (L2.rI CDiv fun i j => .int (i / j)) fdivD := fun S H x y dx dy d Q e hx hy h g => by
  unfold fdivD at h
  split at h
  · split at h
    · rename_i hb
      cases h
      rw [Bool.and_eq_true] at hb
      exact ⟨_, _, hx.int, hy.int, ⟨of_decide_eq_true hb.1, of_decide_eq_true hb.2⟩, g.now e rfl⟩
    · cases h
  · cases h
theorem p_mod {K : PySem.W.Frag} : Prim2 K T (L2.rI (fun _ j => 0 < j) fun i j => .int (i % j)) modD := fun S H x y dx dy d Q e hx hy h g => by
  unfold modD at h
  split at h
  · split at h
    · rename_i hb
      cases h
      exact ⟨_, _, hx.int, hy.int, of_decide_eq_true hb, g.now e rfl⟩
    · cases h
  · cases h
theorem p_pow {K : PySem.W.Frag} : Prim2 K T (L2.rI CPow fun i j => .int (i ^ j.toNat)) powD := fun S H x y dx dy d Q e hx hy h g => by
  unfold powD at h
  split at h
  · split at h
    · rename_i hb
      cases h
      simp only [Bool.and_eq_true] at hb
      exact ⟨_, _, hx.int, hy.int, ⟨of_decide_eq_true hb.1, of_decide_eq_true hb.2.1, of_decide_eq_true hb.2.2⟩, g.now e rfl⟩
    · cases h
  · cases h
theorem p_neg {K : PySem.W.Frag} : Prim1 K T (rU fun i => .int (-i)) negD := fun S H x dx d Q e hx h g => by
  unfold negD at h
  split at h
  · cases h; exact ⟨_, hx.int, g.now e rfl⟩
  · cases h
def rLt2 : R2 := fun x y H Q => rI0 (fun i j => .bl (decide (i < j))) x y H Q ∨ (∃ i j, x = .str i ∧ y = .str j ∧ Q (.bl (decide (i.cps.toList < j.cps.toList))) H)
theorem op_ltA : OpR X (compareOp .Lt) rLt2 := op_lt.or op_lt_str
theorem p_lt {K : PySem.W.Frag} : Prim2 K T rLt2 ltD := fun S H x y dx dy d Q e hx hy h g => by
  unfold ltD at h
  split at h
  · cases h; exact .inl ⟨_, _, hx.int, hy.int, g.now e rfl⟩
  · cases h; exact .inr ⟨_, _, hx.str, hy.str, g.now e rfl⟩
  · cases h
theorem p_gt {K : PySem.W.Frag} : Prim2 K T (rI0 fun i j => .bl (decide (j < i))) gtD := fun S H x y dx dy d Q e hx hy h g => by
  unfold gtD at h
  split at h
  · cases h; exact ⟨_, _, hx.int, hy.int, g.now e rfl⟩
  · cases h
theorem p_ge {K : PySem.W.Frag} : Prim2 K T (rI0 fun i j => .bl (decide (j ≤ i))) geD := fun S H x y dx dy d Q e hx hy h g => by
  unfold geD at h
  split at h
  · cases h; exact ⟨_, _, hx.int, hy.int, g.now e rfl⟩
  · cases h
def rEq2 (K : PySem.W.Frag) : R2 := fun x y H Q => rEq x y H Q ∨ rEqD K x y H Q
def rNe2 (K : PySem.W.Frag) : R2 := fun x y H Q => rNe x y H Q ∨ rNeD K x y H Q
theorem op_eqA (hu : X.A.units + 64 < cLine) : OpR X (compareOp .Eq) (rEq2 X.K) := op_eq.or (op_eqD hu)
theorem op_neA (hu : X.A.units + 64 < cLine) : OpR X (compareOp .NotEq) (rNe2 X.K) := op_ne.or (op_neD hu)
theorem same_kind {K : PySem.W.Frag} {S H : Hp} {x y : V} {dx dy : D} (hx : RpH K T S H dx x) (hy : RpH K T S H dy y) (h : sameKind dx dy = true) : scal x y = true ∧ decide (x = y) = deq dx dy := by
  cases dx <;> cases dy <;> first | cases h | skip
  · rw [hx.non, hy.non]; exact ⟨rfl, rfl⟩
  · rw [hx.bl, hy.bl]; exact ⟨rfl, dec_bl⟩
  · rw [hx.int, hy.int]; exact ⟨rfl, dec_int⟩
  · rw [hx.str, hy.str]; exact ⟨rfl, dec_str⟩
theorem p_eq {K : PySem.W.Frag} : Prim2 K T (rEq2 K) eqD := fun S H x y dx dy d Q e hx hy h g => by
  unfold eqD at h
  by_cases hk : sameKind dx dy = true
  · rw [hk, Bool.true_or, if_pos rfl] at h
    cases h
    obtain ⟨h1, h2⟩ := same_kind hx hy hk
    exact .inl ⟨h1, by rw [h2]; exact g.now e rfl⟩
  · rw [Bool.not_eq_true] at hk
    rw [hk, Bool.false_or] at h
    split at h
    · rename_i ho
      cases h
      unfold okQ at ho
      simp only [Bool.and_eq_true] at ho
      refine .inr ⟨_, _, hx.dp e ho.1.1, hy.dp e ho.2.1, ho.1.2, ho.2.2, ?_⟩
      rw [deq_eqv]; exact g.now e rfl
    · cases h
theorem p_ne {K : PySem.W.Frag} : Prim2 K T (rNe2 K) neD := fun S H x y dx dy d Q e hx hy h g => by
  unfold neD at h
  by_cases hk : sameKind dx dy = true
  · rw [hk, Bool.true_or, if_pos rfl] at h
    cases h
    obtain ⟨h1, h2⟩ := same_kind hx hy hk
    exact .inl ⟨h1, by rw [h2]; exact g.now e rfl⟩
  · rw [Bool.not_eq_true] at hk
    rw [hk, Bool.false_or] at h
    split at h
    · rename_i ho
      cases h
      unfold okQ at ho
      simp only [Bool.and_eq_true] at ho
      refine .inr ⟨_, _, hx.dp e ho.1.1, hy.dp e ho.2.1, ho.1.2, ho.2.2, ?_⟩
      rw [deq_eqv]; exact g.now e rfl
    · cases h
def isNon : D → Bool
  | .non => true
  | _ => false
theorem isNon_of {K : PySem.W.Frag} {S H : Hp} {x : V} {d : D} (h : RpH K T S H d x) : decide (x = .non) = isNon d := by
  rcases h with h | ⟨a, vs, xs, rfl, rfl, _⟩
  · cases d with
    | non => rw [show x = _ from h]; rfl
    | bl b => rw [show x = _ from h]; rfl
    | int b => rw [show x = _ from h]; rfl
    | str b => rw [show x = _ from h]; rfl
    | lst b => obtain ⟨a, vs, rfl, _⟩ := h; rfl
    | tup b => obtain ⟨a, vs, rfl, _⟩ := h; rfl
    | obj _ _ => obtain ⟨a, vs, rfl, _⟩ := h; rfl
    | scr _ => obtain ⟨a, rfl, _⟩ := h; rfl
  · rfl
def isD : D → D → Option D
  | x, .non => some (.bl (isNon x))
  | _, _ => none
def isntD : D → D → Option D
  | x, .non => some (.bl (!isNon x))
  | _, _ => none
theorem p_is {K : PySem.W.Frag} : Prim2 K T (fun x y H Q => y = .non ∧ Q (.bl (decide (x = .non))) H) isD := fun S H x y dx dy d Q e hx hy h g => by
  cases dy <;> first | cases h | skip
  refine ⟨hy.non, ?_⟩
  rw [isNon_of hx]; exact g.now e rfl
/-- in: flat things in a list, a tuple; a text in a text -/
def inStr (x y : Str) : Bool := !(Builtin.Str.occurrences y x 0 y.length 1).isEmpty
def anyEq (x : D) (ys : List D) : Bool := ys.any fun y => deq y x
def inD : D → D → Option D
  | .str x, .str y => some (.bl (inStr x y))
  | x, .lst ys => if x.flat && ys.all D.flat then some (.bl (anyEq x ys)) else none
  | x, .tup ys => if x.flat && ys.all D.flat then some (.bl (anyEq x ys)) else none
  | _, _ => none
def ninD : D → D → Option D
  | .str x, .str y => some (.bl (!inStr x y))
  | x, .lst ys => if x.flat && ys.all D.flat then some (.bl (!anyEq x ys)) else none
  | x, .tup ys => if x.flat && ys.all D.flat then some (.bl (!anyEq x ys)) else none
  | _, _ => none
theorem flat_V {K : PySem.W.Frag} {S : Hp} {d : D} {v : V} (h : d.flat = true) (r : Rp K T S d v) : flatV v = true := by
  cases d <;> first | cases h | skip
  · rw [show v = _ from r]; rfl
  · rw [show v = _ from r]; rfl
  · rw [show v = _ from r]; rfl
  · rw [show v = _ from r]; rfl
theorem eqV_of {K : PySem.W.Frag} {S : Hp} {d e : D} {v w : V} (hd : d.flat = true) (he : e.flat = true) (r : Rp K T S d v) (q : Rp K T S e w) : eqV v w = deq d e := by
  cases d <;> first | cases hd | skip
  all_goals (cases e <;> first | cases he | skip)
  all_goals (rw [show v = _ from r, show w = _ from q]; simp [eqV, deq])
theorem Rps.flatV : ∀ {K : PySem.W.Frag} {S : Hp} {ds : List D} {vs : List V}, ds.all D.flat = true → Rps K T S ds vs → vs.all L2.flatV = true
  | _, _, [], _, _, r => by rw [show _ = [] from r]; rfl
  | _, _, d :: ds, _, h, ⟨v, r, e1, h1, hs⟩ => by
    rw [List.all_cons, Bool.and_eq_true] at h
    rw [e1, List.all_cons, flat_V h.1 h1, Rps.flatV h.2 hs]; rfl
theorem Rps.inV {K : PySem.W.Frag} {S : Hp} {x : D} {u : V} (hx : x.flat = true) (rx : Rp K T S x u) : ∀ {ds : List D} {vs : List V}, ds.all D.flat = true → Rps K T S ds vs → L2.inV u vs = anyEq x ds
  | [], _, _, r => by rw [show _ = [] from r]; rfl
  | d :: ds, _, h, ⟨v, r, e1, h1, hs⟩ => by
    rw [List.all_cons, Bool.and_eq_true] at h
    rw [e1]
    unfold L2.inV anyEq
    rw [List.any_cons, List.any_cons, eqV_of h.1 hx h1 rx]
    have := Rps.inV hx rx h.2 hs
    unfold L2.inV anyEq at this
    rw [this]
def rIn2 (K : PySem.W.Frag) (neg : Bool) : R2 := fun x y H Q => (∃ i j, x = .str i ∧ y = .str j ∧ Q (.bl (if neg then !inStr i j else inStr i j)) H) ∨ rIn K neg x y H Q
theorem op_inA : OpR X (compareOp .In) (rIn2 X.K false) := op_in_str.or op_in_seq
theorem op_ninA : OpR X (compareOp .NotIn) (rIn2 X.K true) := op_notin_str.or op_notIn_seq
theorem RpH.flat {K : PySem.W.Frag} {S H : Hp} {d : D} {v : V} (h : RpH K T S H d v) (hf : d.flat = true) : Rp K T S d v := by
  rcases h with h | ⟨_, _, _, _, rfl, _⟩
  · exact h
  · cases hf
theorem p_in {K : PySem.W.Frag} : Prim2 K T (rIn2 K false) inD := fun S H x y dx dy d Q e hx hy h g => by
  unfold inD at h
  split at h
  · cases h; exact .inl ⟨_, _, hx.str, hy.str, g.now e rfl⟩
  · split at h
    · rename_i hb
      cases h
      rw [Bool.and_eq_true] at hb
      obtain ⟨a, vs, rfl, q, r⟩ := hy.lst e
      refine .inr ⟨a, vs, rfl, .inl (SqL.of q), flat_V hb.1 (hx.flat hb.1), Rps.flatV hb.2 r, ?_⟩
      rw [Rps.inV hb.1 (hx.flat hb.1) hb.2 r]; exact g.now e rfl
    · cases h
  · split at h
    · rename_i hb
      cases h
      rw [Bool.and_eq_true] at hb
      obtain ⟨a, vs, rfl, q, r⟩ := hy.tup e
      refine .inr ⟨a, vs, rfl, .inr q, flat_V hb.1 (hx.flat hb.1), Rps.flatV hb.2 r, ?_⟩
      rw [Rps.inV hb.1 (hx.flat hb.1) hb.2 r]; exact g.now e rfl
    · cases h
  · cases h
theorem p_nin {K : PySem.W.Frag} : Prim2 K T (rIn2 K true) ninD := fun S H x y dx dy d Q e hx hy h g => by
  unfold ninD at h
  split at h
  · cases h; exact .inl ⟨_, _, hx.str, hy.str, g.now e rfl⟩
  · split at h
    · rename_i hb
      cases h
      rw [Bool.and_eq_true] at hb
      obtain ⟨a, vs, rfl, q, r⟩ := hy.lst e
      refine .inr ⟨a, vs, rfl, .inl (SqL.of q), flat_V hb.1 (hx.flat hb.1), Rps.flatV hb.2 r, ?_⟩
      rw [Rps.inV hb.1 (hx.flat hb.1) hb.2 r]; exact g.now e rfl
    · cases h
  · split at h
    · rename_i hb
      cases h
      rw [Bool.and_eq_true] at hb
      obtain ⟨a, vs, rfl, q, r⟩ := hy.tup e
      refine .inr ⟨a, vs, rfl, .inr q, flat_V hb.1 (hx.flat hb.1), Rps.flatV hb.2 r, ?_⟩
      rw [Rps.inV hb.1 (hx.flat hb.1) hb.2 r]; exact g.now e rfl
    · cases h
  · cases h
end
end Lq
namespace Lq
open PySem PySem.Spec PyProof.Rows L2
section
variable {K : PySem.W.Frag} {T : Tb} {S H : Hp}
theorem RpHs.one {d : D} {us : List V} (h : RpHs K T S H [d] us) : ∃ u, us = [u] ∧ RpH K T S H d u := by
  obtain ⟨u, r, e1, h1, h2⟩ := h
  rw [show r = [] from h2] at e1
  exact ⟨u, e1, h1⟩
theorem RpHs.two {d e : D} {us : List V} (h : RpHs K T S H [d, e] us) : ∃ u v, us = [u, v] ∧ RpH K T S H d u ∧ RpH K T S H e v := by
  obtain ⟨u, r, e1, h1, h2⟩ := h
  obtain ⟨v, e2, h3⟩ := h2.one
  rw [e2] at e1
  exact ⟨u, v, e1, h1, h3⟩
theorem RpH.scr {ns : List Int} {v : V} (h : RpH K T S H (.scr ns) v) (e : SameT T S H) : ∃ a, v = .ref a ∧ SqL K H a (ns.map V.int) := by
  rcases h with ⟨a, e1, q⟩ | ⟨_, _, _, _, e2, _⟩
  · exact ⟨a, e1, e.seq q⟩
  · cases e2
/-- len -/
def lenD : List D → Option D
  | [.lst xs] => some (.int xs.length)
  | [.tup xs] => some (.int xs.length)
  | [.scr ns] => some (.int ns.length)
  | [.str s] => if fits s.length then some (.int s.length) else none
  | _ => none
theorem p_len : PrimN K T (fun xs H Q => ∃ x n, xs = [x] ∧ LenV K x H n ∧ Q (.int n) H) lenD := fun S H xs ds d Q e h hg g => by
  unfold lenD at hg
  split at hg
  · cases hg
    obtain ⟨u, rfl, hu⟩ := h.one
    obtain ⟨a, vs, rfl, q, r⟩ := hu.lst e
    exact ⟨_, _, rfl, .inl ⟨vs, SqL.of q, r.len.symm⟩, g.now e rfl⟩
  · cases hg
    obtain ⟨u, rfl, hu⟩ := h.one
    obtain ⟨a, vs, rfl, q, r⟩ := hu.tup e
    exact ⟨_, _, rfl, .inr ⟨vs, q, r.len.symm⟩, g.now e rfl⟩
  · cases hg
    obtain ⟨u, rfl, hu⟩ := h.one
    obtain ⟨a, rfl, q⟩ := hu.scr e
    exact ⟨_, _, rfl, .inl ⟨_, q, (List.length_map ..).symm⟩, g.now e rfl⟩
  · split at hg
    · rename_i hf
      cases hg
      obtain ⟨u, rfl, hu⟩ := h.one
      rw [hu.str]
      exact ⟨_, _, rfl, ⟨fits_line hf, rfl⟩, g.now e rfl⟩
    · cases hg
  · cases hg
/-- subscripts -/
def atD : D → D → Option D
  | .lst xs, .int i => atI xs i
  | .tup xs, .int i => atI xs i
  | .scr ns, .int i => (atI ns i).map D.int
  | .str s, .int i => if fits s.length then (atI s.cps.toList i).map fun c => D.str ⟨#[c]⟩ else none
  | _, _ => none
theorem atI_rps {ds : List D} {vs : List V} {i : Int} {d : D} (r : Rps K T S ds vs) (h : atI ds i = some d) : ∃ v, atI vs i = some v ∧ Rp K T S d v := by
  unfold atI at h ⊢
  rw [r.len]
  cases q : ixN ds.length i with
  | none => rw [q] at h; cases h
  | some j =>
    rw [q] at h
    obtain ⟨v, h1, h2⟩ := r.get (show ds[j]? = some d from h)
    exact ⟨v, h1, h2⟩
theorem p_ix : Prim2 K T (rIx K) atD := fun S H x y dx dy d Q e hx hy h g => by
  unfold atD at h
  split at h
  · obtain ⟨a, vs, rfl, q, r⟩ := hx.lst e
    obtain ⟨v, hv, rv⟩ := atI_rps r h
    exact .inl ⟨a, vs, _, v, rfl, hy.int, SqL.of q, hv, g.now e rv⟩
  · obtain ⟨a, vs, rfl, q, r⟩ := hx.tup e
    obtain ⟨v, hv, rv⟩ := atI_rps r h
    exact .inr (.inl ⟨a, vs, _, v, rfl, hy.int, q, hv, g.now e rv⟩)
  · rename_i ns i
    obtain ⟨a, rfl, q⟩ := hx.scr e
    cases z : atI ns i with
    | none => rw [z] at h; cases h
    | some k =>
      rw [z] at h
      cases h
      have hz : atI (ns.map V.int) i = some (.int k) := by
        unfold atI at z ⊢
        rw [List.length_map]
        cases y : ixN ns.length i with
        | none => rw [y] at z; cases z
        | some j =>
          rw [y] at z
          have z' : ns[j]? = some k := z
          show (ns.map V.int)[j]? = _
          rw [List.getElem?_map, z']; rfl
      exact .inl ⟨a, _, _, _, rfl, hy.int, q, hz, g.now e rfl⟩
  · split at h
    · rename_i s i hf
      cases q : atI s.cps.toList i with
      | none => rw [q] at h; cases h
      | some c =>
        rw [q] at h
        cases h
        exact .inr (.inr ⟨s, i, c, hx.str, hy.int, fits_line hf, q, g.now e rfl⟩)
    · cases h
  · cases h
/-- slices -/
def cutL {α : Type} (xs : List α) (lo hi : Option Int) : List α := (xs.drop (HT.sIx xs.length 0 lo)).take (HT.sIx xs.length xs.length hi - HT.sIx xs.length 0 lo)
def cutD (x : D) (lo hi : Option Int) : Option D := match x with
  | .lst xs => some (.lst (cutL xs lo hi))
  | .tup xs => some (.tup (cutL xs lo hi))
  | .scr ns => some (.lst (cutL (ns.map D.int) lo hi))
  | .str s => if fits s.length then some (.str (cutS s lo hi)) else none
  | _ => none
theorem Rps.cut {ds : List D} {vs : List V} (r : Rps K T S ds vs) (lo hi : Option Int) : Rps K T S (cutL ds lo hi) (cutV vs lo hi) := by
  unfold cutL cutV
  rw [r.len]
  exact (r.drop _).take _
theorem cutL_whole {α : Type} {xs : List α} {lo hi : Option Int} (h : HT.sIx xs.length 0 lo = 0 ∧ HT.sIx xs.length xs.length hi = xs.length) : cutL xs lo hi = xs := by
  unfold cutL
  rw [h.1, h.2, List.drop_zero, Nat.sub_zero, List.take_length]
def rSl3 (K : PySem.W.Frag) : V → Option Int → Option Int → Hp → VK → Prop := fun x lo hi H Q => rSlL K x lo hi H Q ∨ rSlA K x lo hi H Q ∨ rSlS x lo hi H Q
theorem sl_any {X : Cx} : L2.SlR X (rSl3 X.K) := sl_list.or (sl_tupA.or sl_str)
theorem p_sl {x : V} {dx d : D} {lo hi : Option Int} {Q : VK} (e : SameT T S H) (hx : RpH K T S H dx x) (h : cutD dx lo hi = some d) (g : Gv K T S H d Q) : rSl3 K x lo hi H Q := by
  unfold cutD at h
  split at h
  · cases h
    obtain ⟨a, vs, rfl, q, r⟩ := hx.lst e
    exact .inl ⟨a, vs, rfl, SqL.of q, fun p hp => g.newL e (r.cut lo hi) p hp⟩
  · rename_i xs
    cases h
    obtain ⟨a, vs, rfl, q, r⟩ := hx.tup e
    refine .inr (.inl ⟨a, vs, rfl, q, fun hw => ?_, fun _ p hp => g.newT e (r.cut lo hi) p hp⟩)
    rw [r.len] at hw
    rw [cutL_whole hw] at g
    rcases hx with hx | ⟨_, _, _, _, ee, _⟩
    · exact g.now e hx
    · cases ee
  · cases h
    obtain ⟨a, rfl, q⟩ := hx.scr e
    exact .inl ⟨a, _, rfl, q, fun p hp => g.newL e ((Rps.ints _).cut lo hi) p hp⟩
  · split at h
    · rename_i hf
      cases h
      exact .inr (.inr ⟨_, hx.str, fits_line hf, g.now e rfl⟩)
    · cases h
  · cases h
/-- the parts of a slice -/
def rOp (K : PySem.W.Frag) (T : Tb) (W : WX) (f : Rho → R (Option Int)) : TO := rG K T W (fun _ _ (b c : Option Int) => b = c) f
def noPart : Rho → R (Option Int) := fun ρ => .ok none ρ
def aPart (fa : Rho → R VD) : Rho → R (Option Int) := fun ρ => (fa ρ).bind fun v ρ1 => match v with | .d (.int i) => .ok (some i) ρ1 | _ => .bad
end
def XO (X : Cx) (T : Tb) (W : WX) (e : Option Expr) (f : Rho → R (Option Int)) : Prop := PO X e (rOp X.K T W f)
section
variable {X : Cx} {T : Tb} {W : WX} {a b c e o : Expr} {es : List Expr} {fa fb fc fo : Rho → R VD} {fs : Rho → R (List VD)} {ft fu : Rho → R Bool} {pos : Pos}
theorem xo_none : XO X T W none noPart := ⟨fun pins s σ H Q I h => po_none.run pins s σ H Q I (by
  obtain ⟨β, G, S, ρ, o, p⟩ := h
  exact p S H none (Same.refl _) o rfl)⟩
theorem xo_some (he : XE X T W e fa) : XO X T W (some e) (aPart fa) := ⟨fun pins s σ H Q I h => (po_some he).run pins s σ H Q I (by
  obtain ⟨β, G, S, ρ, o, p⟩ := h
  refine ⟨β, G, S, ρ, o, Post.thn (Rl := RpV X.K T σ) p fun S1 H1 ρ1 v u e1 o1 h1 p1 => ?_⟩
  split at p1
  · exact ⟨_, h1, p1 S1 H1 _ (Same.refl _) o1 rfl⟩
  · exact p1.elim)⟩
def slE (fa : Rho → R VD) (fl fh : Rho → R (Option Int)) : Rho → R VD := fun ρ => (fa ρ).bind fun v ρ1 => (fl ρ1).bind fun l ρ2 => (fh ρ2).bind fun h ρ3 => match res v ρ3 with
  | some x => (match cutD x l h with | some d => .ok (.d d) ρ3 | none => .bad)
  | none => .bad
theorem xe_sl {lo hi : Option Expr} {fl fh : Rho → R (Option Int)} {p2 : Pos} (he : XE X T W e fa) (hl : XO X T W lo fl) (hh : XO X T W hi fh) : XE X T W (.Subscript e (.Slice lo hi none p2) pos) (slE fa fl fh) :=
  (pe_slice sl_any he hl hh).impQ fun σ H Q h => by
    obtain ⟨β, G, S, ρ, o, p⟩ := h
    refine ⟨β, G, S, ρ, o, Post.thn (Rl := RpV X.K T σ) p fun S1 H1 ρ1 v u e1 o1 h1 p1 => ?_⟩
    refine ⟨β, G, S1, ρ1, o1, Post.thn (Rl := fun _ (b c : Option Int) => b = c) p1 fun S2 H2 ρ2 l l' e2 o2 h2 p2 => ?_⟩
    refine ⟨β, G, S2, ρ2, o2, Post.thn (Rl := fun _ (b c : Option Int) => b = c) p2 fun S3 H3 ρ3 k k' e3 o3 h3 p3 => ?_⟩
    subst h2; subst h3
    split at p3
    · rename_i x q
      split at p3
      · rename_i d q2
        exact p_sl o3.sh (o3.res (h1.mono (e2.trans e3)) q) q2 (p3.gv o3)
      · exact p3.elim
    · exact p3.elim
/-! ### a < b <= c -/
def chainE (g g' : D → D → Option D) (fa fb fc : Rho → R VD) : Rho → R VD := fun ρ => (fa ρ).bind fun v ρ1 => (fb ρ1).bind fun w ρ2 => match v, w with
  | .d x, .d y => (match g x y with
    | some (.bl true) => (fc ρ2).bind fun z ρ3 => (match z with | .d u => (match g' y u with | some d => .ok (.d d) ρ3 | none => .bad) | _ => .bad)
    | some (.bl false) => .ok (.d (.bl false)) ρ2
    | _ => .bad)
  | _, _ => .bad
/-! ### methods of texts -/
def strM (g : Str → List D → Option D) (fo : Rho → R VD) (fs : Rho → R (List VD)) : Rho → R VD := fun ρ => (fo ρ).bind fun v ρ1 => match v with
  | .d (.str s) => (fs ρ1).bind fun vs ρ2 => (match resAll vs ρ2 with | some xs => (match g s xs with | some d => .ok (.d d) ρ2 | none => .bad) | none => .bad)
  | _ => .bad
def PrimS (K : PySem.W.Frag) (T : Tb) (r : V → List V → Hp → VK → Prop) (g : Str → List D → Option D) : Prop := ∀ S H s xs ds d Q, SameT T S H → RpHs K T S H ds xs → g s ds = some d → Gv K T S H d Q → r (.str s) xs H Q
theorem xe_strM {name : Str} {id : String} {r : V → List V → Hp → VK → Prop} {g : Str → List D → Option D} {apos cpos : Pos} (slot : Slot "str" name id) (hty : typeOf (.builtin id) = pure (.type "method_descriptor")) (hm : MtR X id r) (hp : PrimS X.K T r g) (ho : XE X T W o fo) (ha : XA X T W (e :: es) fs)
    (hbase : attributeBase o name X.env (eval o X.env) = eval o X.env := by rfl)
    (hfew : ((backTo cpos (starEach (e :: es) X.env)).all (fun x => !x.1) && (backToKw cpos (keywordEach [] X.env)).all (fun x => x.1.isSome) && decide ((e :: es).length + ([] : List Keyword).length + (if ([] : List Keyword).isEmpty then 0 else 1) < 30)) = true := by rfl)
    (hline : (apos.endLine == cpos.line) = true := by rfl) (hs : starEach (e :: es) X.env = (false, eval e X.env) :: starEach es X.env := by rfl) (hplain : (backTo cpos (starEach es X.env)).any (·.1) = false := by rfl) :
    XE X T W (.Call (.Attribute o name apos) (e :: es) [] cpos) (strM g fo fs) :=
  (pe_bm PySem.F.plainAttrs_str slot hty hm ho ha hbase hfew hline hs hplain).impQ fun σ H Q h => by
    obtain ⟨β, G, S, ρ, o, p⟩ := h
    refine ⟨β, G, S, ρ, o, Post.thn (Rl := RpV X.K T σ) p fun S1 H1 ρ1 v u e1 o1 h1 p1 => ?_⟩
    split at p1
    · rename_i s
      rw [show u = .str s from h1]
      refine ⟨rfl, β, G, S1, ρ1, o1, Post.thn (Rl := RpVs X.K T σ) p1 fun S2 H2 ρ2 vs us e2 o2 h2 p2 => ?_⟩
      split at p2
      · rename_i xs q
        split at p2
        · rename_i d q2
          exact hp S2 H2 s us xs d Q o2.sh (o2.resAll h2 q) q2 (p2.gv o2)
        · exact p2.elim
      · exact p2.elim
    · exact p1.elim
def splitD (s : Str) : List D → Option D
  | [.str b] => if !(b.length == 0) && fits s.length then some (.lst ((Txt.split s b).map D.str)) else none
  | _ => none
theorem fits_two {n : Nat} (h : fits n = true) : n + 2 ≤ sizeLine := by
  have := of_decide_eq_true h
  rw [sizeLine_eq]; omega
theorem p_split {K : PySem.W.Frag} : PrimS K T (fun x xs H Q => ∃ a b, x = .str a ∧ xs = [.str b] ∧ (b.length == 0) = false ∧ a.length + 2 ≤ sizeLine ∧ rNewStrs (Txt.split a b) H Q) splitD := fun S H s xs ds d Q e h hg g => by
  unfold splitD at hg
  split at hg
  · split at hg
    · rename_i hb
      cases hg
      rw [Bool.and_eq_true, Bool.not_eq_true'] at hb
      obtain ⟨u, rfl, hu⟩ := h.one
      rw [hu.str]
      exact ⟨s, _, rfl, rfl, hb.1, fits_two hb.2, fun p hp => g.newL e (Rps.strs _) p hp⟩
    · cases hg
  · cases hg
def joinD (s : Str) : List D → Option D
  | [x] => (match x.items? with
    | some xs => (match allOf D.str? xs with
      | some ys => if decide ((ys.map (·.length)).sum + ys.length * s.length ≤ 16777216) then some (.str (Txt.join s ys)) else none
      | none => none)
    | none => none)
  | _ => none
theorem p_join {K : PySem.W.Frag} : PrimS K T (fun x xs H Q => ∃ a p, ∃ ys : List Str, x = .str a ∧ xs = [.ref p] ∧ (SqL K H p (ys.map V.str) ∨ SqT K H p (ys.map V.str)) ∧
    (ys.map (·.length)).sum + ys.length * a.length ≤ 16777216 ∧ Q (.str (Txt.join a ys)) H) joinD := fun S H s xs ds d Q e h hg g => by
  unfold joinD at hg
  split at hg
  case h_2 => cases hg
  case h_1 x =>
  obtain ⟨u, rfl, hu⟩ := h.one
  split at hg
  case h_2 => cases hg
  case h_1 ys q =>
  split at hg
  case h_2 => cases hg
  case h_1 zs q2 =>
  split at hg
  case isFalse => cases hg
  case isTrue hf =>
  cases hg
  have ez := allOf_strs q2
  subst ez
  cases x with
  | lst xs =>
    cases q
    obtain ⟨a, vs, rfl, q', r⟩ := hu.lst e
    have := r.strsV
    subst this
    exact ⟨s, a, zs, rfl, rfl, .inl (SqL.of q'), of_decide_eq_true hf, g.now e rfl⟩
  | tup xs =>
    cases q
    obtain ⟨a, vs, rfl, q', r⟩ := hu.tup e
    have := r.strsV
    subst this
    exact ⟨s, a, zs, rfl, rfl, .inr q', of_decide_eq_true hf, g.now e rfl⟩
  | _ => cases q
/-! ### built-ins -/
def tupleD : List D → Option D
  | [.lst xs] => some (.tup xs)
  | [.tup xs] => some (.tup xs)
  | _ => none
theorem p_tuple {K : PySem.W.Frag} : PrimN K T (fun xs H Q => ∃ p ys, xs = [.ref p] ∧ ((SqL K H p ys ∧ ∀ l, H l = none → Q (.ref l) (upd H l (.tup ys))) ∨ (SqT K H p ys ∧ Q (.ref p) H))) tupleD := fun S H xs ds d Q e h hg g => by
  unfold tupleD at hg
  split at hg
  · cases hg
    obtain ⟨u, rfl, hu⟩ := h.one
    obtain ⟨a, vs, rfl, q, r⟩ := hu.lst e
    exact ⟨a, vs, rfl, .inl ⟨SqL.of q, fun l hl => g.newT e r l hl⟩⟩
  · cases hg
    obtain ⟨u, rfl, hu⟩ := h.one
    obtain ⟨a, vs, rfl, q, r⟩ := hu.tup e
    rcases hu with hu | ⟨_, _, _, _, ee, _⟩
    · exact ⟨a, vs, rfl, .inr ⟨q, g.now e hu⟩⟩
    · cases ee
  · cases hg
def listF : List D → Option (List D)
  | [.lst xs] => some xs
  | [.tup xs] => some xs
  | _ => none
theorem p_list {K : PySem.W.Frag} : PrimNF K T (fun xs H Q => ∃ p ys, xs = [.ref p] ∧ (SqL K H p ys ∨ SqT K H p ys) ∧ ∀ l, H l = none → Q (.ref l) (upd H l (.lst ys))) listF := fun S H xs ds d Q e h hg g => by
  unfold listF at hg
  split at hg
  · cases hg
    obtain ⟨u, rfl, hu⟩ := h.one
    obtain ⟨a, vs, rfl, q, r⟩ := hu.lst e
    exact ⟨a, vs, rfl, .inl (SqL.of q), fun l hl => g.new e r l hl⟩
  · cases hg
    obtain ⟨u, rfl, hu⟩ := h.one
    obtain ⟨a, vs, rfl, q, r⟩ := hu.tup e
    exact ⟨a, vs, rfl, .inr q, fun l hl => g.new e r l hl⟩
  · cases hg
def allD : List D → Option D
  | [.lst xs] => (match allOf D.bl? xs with | some bs => some (.bl (bs.all id)) | none => none)
  | _ => none
def anyD : List D → Option D
  | [.lst xs] => (match allOf D.bl? xs with | some bs => some (.bl (bs.any id)) | none => none)
  | _ => none
def sumD : List D → Option D
  | [.lst xs] => (match allOf D.int? xs with | some bs => some (.int bs.sum) | none => none)
  | _ => none
theorem p_all {K : PySem.W.Frag} : PrimN K T (rAll K) allD := fun S H xs ds d Q e h hg g => by
  unfold allD at hg
  split at hg
  case h_2 => cases hg
  case h_1 ys =>
  split at hg
  case h_2 => cases hg
  case h_1 bs q =>
  cases hg
  have ez := allOf_bls q
  subst ez
  obtain ⟨u, rfl, hu⟩ := h.one
  obtain ⟨a, vs, rfl, q', r⟩ := hu.lst e
  have := r.blsV
  subst this
  exact ⟨a, bs, rfl, SqL.of q', g.now e rfl⟩
def absD : List D → Option D
  | [.int i] => some (.int (if i < 0 then -i else i))
  | _ => none
theorem p_abs {K : PySem.W.Frag} : PrimN K T (fun xs H Q => ∃ i, xs = [.int i] ∧ Q (.int (if i < 0 then -i else i)) H) absD := fun S H xs ds d Q e h hg g => by
  unfold absD at hg
  split at hg
  · cases hg
    obtain ⟨u, rfl, hu⟩ := h.one
    rw [hu.int]
    exact ⟨_, rfl, g.now e rfl⟩
  · cases hg
def min2D : List D → Option D
  | [.int i, .int j] => some (.int (if j < i then j else i))
  | _ => none
def max2D : List D → Option D
  | [.int i, .int j] => some (.int (if j > i then j else i))
  | _ => none
/-- int of an int, a bool, a text -/
def intD : List D → Option D
  | [.int i] => some (.int i)
  | [.bl b] => some (.int (if b then 1 else 0))
  | [.str s] => if decide (s.length ≤ 640) then (PySem.intText? s).map D.int else none
  | _ => none
def rInt3 : List V → Hp → VK → Prop := fun xs H Q => ((∃ i, xs = [.int i] ∧ Q (.int i) H) ∨ ∃ k, xs = [.bl k] ∧ Q (.int (if k then 1 else 0)) H) ∨ ∃ a n, xs = [.str a] ∧ PySem.intText? a = some n ∧ a.length ≤ 640 ∧ Q (.int n) H
theorem call_intA : CallR X (.type "int") rInt3 := call_int1.or call_int_str
theorem p_int {K : PySem.W.Frag} : PrimN K T rInt3 intD := fun S H xs ds d Q e h hg g => by
  unfold intD at hg
  split at hg
  · cases hg
    obtain ⟨u, rfl, hu⟩ := h.one
    rw [hu.int]
    exact .inl (.inl ⟨_, rfl, g.now e rfl⟩)
  · cases hg
    obtain ⟨u, rfl, hu⟩ := h.one
    rw [hu.bl]
    exact .inl (.inr ⟨_, rfl, g.now e rfl⟩)
  · split at hg
    · rename_i s hf
      cases q : PySem.intText? s with
      | none => rw [q] at hg; cases hg
      | some n =>
        rw [q] at hg
        cases hg
        obtain ⟨u, rfl, hu⟩ := h.one
        rw [hu.str]
        exact .inr ⟨s, n, rfl, q, of_decide_eq_true hf, g.now e rfl⟩
    · cases hg
  · cases hg
def strD : List D → Option D
  | [.int i] => if decide (i.natAbs.log2 < 1920) then some (.str (toString i)) else none
  | _ => none
theorem p_str {K : PySem.W.Frag} : PrimN K T (fun xs H Q => ∃ i : Int, xs = [.int i] ∧ i.natAbs.log2 < 1920 ∧ Q (.str (toString i)) H) strD := fun S H xs ds d Q e h hg g => by
  unfold strD at hg
  split at hg
  · split at hg
    · rename_i hf
      cases hg
      obtain ⟨u, rfl, hu⟩ := h.one
      rw [hu.int]
      exact ⟨_, rfl, of_decide_eq_true hf, g.now e rfl⟩
    · cases hg
  · cases hg
end
end Lq
namespace Lq
open PySem PySem.Spec PyProof.Rows L2
/-! ### several values at once, new lists among them -/
inductive MV where
  | d (x : D)
  | f (ds : List D)
  | g
def Hold (K : PySem.W.Frag) (T : Tb) (S : Hp) : Hp → Hp → List MV → List V → Prop
  | G, G', [], us => us = [] ∧ G' = G
  | G, G', .d x :: ms, us => ∃ u r, us = u :: r ∧ Rp K T S x u ∧ Hold K T S G G' ms r
  | G, G', .f ds :: ms, us => ∃ p vs r, us = .ref p :: r ∧ G p = none ∧ Rps K T S ds vs ∧ Hold K T S (upd G p (.lst vs)) G' ms r
  | G, G', .g :: ms, us => ∃ p r, us = .ref p :: r ∧ G p = none ∧ Hold K T S (upd G p (.dK [])) G' ms r
def PostM (K : PySem.W.Frag) (T : Tb) (W : WX) (β : Bt) (G S : Hp) (σ : L2.St) (r : R (List MV)) (Q : List V → Hp → Prop) : Prop := match r with
  | .ok ms ρ' => ∀ S' H' us G', Same S S' → Ok K T β G' S' σ ρ' H' → Hold K T S' G G' ms us → Q us H'
  | .err x ρ' => ∀ S' H' c d, Same S S' → Ok K T β G S' σ ρ' H' → XR K T S' x c d → W c d σ H'
  | .bad => False
def rM (K : PySem.W.Frag) (T : Tb) (W : WX) (f : Rho → R (List MV)) : TA := fun σ H Q => ∃ β G S ρ, Ok K T β G S σ ρ H ∧ PostM K T W β G S σ (f ρ) Q
def XM (X : Cx) (T : Tb) (W : WX) (es : List Expr) (f : Rho → R (List MV)) : Prop := PA X es (rM X.K T W f)
section
variable {K : PySem.W.Frag} {T : Tb} {W : WX} {β : Bt} {G S S' H : Hp} {σ : L2.St} {ρ : Rho}
theorem Ok.guardHere (o : Ok K T β G S σ ρ H) {p : Addr} {us : List V} (f : Fre β G S σ ρ p) (h : H p = some (.lst us)) : Ok K T β (upd G p (.lst us)) S σ ρ H where
  sh := o.sh
  gh := o.gh.new1 h
  gs := fun b v q n => by
    by_cases hb : b = p
    · subst hb; exact f.s
    · rw [upd_ne hb] at q; exact o.gs b v q n
  gb := fun b q => by
    have hb : b ≠ p := fun z => f.b (by rw [q, z])
    rw [upd_ne hb]; exact o.gb b q
  bx := o.bx
  len := o.len
  cel := fun i c q => by
    have h1 := o.cel i c q
    cases c with
    | no => trivial
    | d x => exact h1
    | m xs =>
      obtain ⟨a, vs, e1, e2, e3, e4, e5, r⟩ := h1
      have hb : a ≠ p := fun z => f.sl i xs q (by rw [e1, z])
      exact ⟨a, vs, e1, e2, e3, by rw [upd_ne hb]; exact e4, e5, r⟩
    | k l =>
      obtain ⟨a, kvs, e1, e2, e3, e4, e5, ek, r⟩ := h1
      have hb : a ≠ p := fun z => f.sk i l q (by rw [e1, z])
      exact ⟨a, kvs, e1, e2, e3, by rw [upd_ne hb]; exact e4, e5, ek, r⟩
    | kt l =>
      obtain ⟨a, kvs, e1, e2, e3, e4, e5, ek, r⟩ := h1
      have hb : a ≠ p := fun z => f.skt i l q (by rw [e1, z])
      exact ⟨a, kvs, e1, e2, e3, by rw [upd_ne hb]; exact e4, e5, ek, r⟩
    | b ns => exact h1
    | s t =>
      obtain ⟨a, dx, e1, e2, e3, e4, e5, e6, e7, e8⟩ := h1
      exact ⟨a, dx, e1, e2, e3, e4, e5, by rw [upd_ne (fun z => by rw [z, h] at e4; cases e4)]; exact e6, e7, by rw [upd_ne (fun z => by rw [z, h] at e3; cases e3)]; exact e8⟩
  dis := o.dis
def nilM : Rho → R (List MV) := fun ρ => .ok [] ρ
def consMd (fa : Rho → R VD) (fm : Rho → R (List MV)) : Rho → R (List MV) := fun ρ => (fa ρ).bind fun v ρ1 => match v with | .d x => (fm ρ1).bind fun ms ρ2 => .ok (.d x :: ms) ρ2 | .sl _ => .bad
theorem xm_nil {X : Cx} : XM X T W [] nilM := pa_nil.impQ fun σ H Q h => by
  obtain ⟨β, G, S, ρ, o, p⟩ := h
  exact p S H [] G (Same.refl _) o ⟨rfl, rfl⟩
theorem PostM.mono {r : R (List MV)} {Q : List V → Hp → Prop} (h : PostM K T W β G S σ r Q) (e : Same S S') : PostM K T W β G S' σ r Q := by
  cases r with
  | ok a ρ' => exact fun S2 H2 us G' e2 o => h S2 H2 us G' (e.trans e2) o
  | err x ρ' => exact fun S2 H2 c d e2 o => h S2 H2 c d (e.trans e2) o
  | bad => exact h
/-- what a wish about errors says with less guarded -/
theorem xm_d {X : Cx} {e : Expr} {es : List Expr} {fa : Rho → R VD} {fm : Rho → R (List MV)} (ha : XE X T W e fa) (hs : XM X T W es fm) (hst : starEach (e :: es) X.env = (false, eval e X.env) :: starEach es X.env := by rfl) : XM X T W (e :: es) (consMd fa fm) := (pa_cons ha hs hst).impQ fun σ H Q h => by
  obtain ⟨β, G, S, ρ, o, p⟩ := h
  refine ⟨β, G, S, ρ, o, ?_⟩
  unfold consMd at p
  revert p
  cases fa ρ with
  | bad => exact fun p => p
  | err x ρ1 => exact fun p => p
  | ok v ρ1 =>
    intro p S1 H1 u e1 o1 h1
    dsimp only [R.bind] at p
    cases v with
    | sl i => exact p.elim
    | d x =>
      refine ⟨β, G, S1, ρ1, o1, ?_⟩
      dsimp only at p
      have p' := PostM.mono p e1
      revert p'
      cases fm ρ1 with
      | bad => exact fun p => p
      | err y ρ2 => exact fun p => p
      | ok ms ρ2 => exact fun p S2 H2 us G' e2 o2 h2 => p S2 H2 _ G' e2 o2 ⟨u, us, rfl, Rp.mono e2 _ _ h1, h2⟩
/-- the errors of the rest must not come while a new list is held -/
def noErr (r : R (List MV)) : R (List MV) := match r with | .err _ _ => .bad | r => r
def consMf' (f : Rho → R (List D)) (fm : Rho → R (List MV)) : Rho → R (List MV) := fun ρ => (f ρ).bind fun ds ρ1 => (noErr (fm ρ1)).bind fun ms ρ2 => .ok (.f ds :: ms) ρ2
theorem xm_f {X : Cx} {e : Expr} {es : List Expr} {f : Rho → R (List D)} {fm : Rho → R (List MV)} (ha : XF X T W e f) (hs : XM X T W es fm) (hst : starEach (e :: es) X.env = (false, eval e X.env) :: starEach es X.env := by rfl) : XM X T W (e :: es) (consMf' f fm) := (pa_cons ha hs hst).impQ fun σ H Q h => by
  obtain ⟨β, G, S, ρ, o, p⟩ := h
  refine ⟨β, G, S, ρ, o, ?_⟩
  unfold consMf' at p
  revert p
  cases f ρ with
  | bad => exact fun p => p
  | err x ρ1 => exact fun p => p
  | ok ds ρ1 =>
    intro p S1 H1 a vs e1 o1 fr hv h1
    dsimp only [R.bind] at p
    refine ⟨β, upd G a (.lst vs), S1, ρ1, o1.guardHere fr hv, ?_⟩
    have p' := PostM.mono p e1
    revert p'
    cases fm ρ1 with
    | bad => exact fun p => p
    | err y ρ2 => exact fun p => p.elim
    | ok ms ρ2 => exact fun p S2 H2 us G' e2 o2 h2 => p S2 H2 _ G' e2 o2 ⟨a, vs, us, rfl, fr.g, Rps.mono e2 _ _ h1, h2⟩
/-- the names take them -/
def setsS (σ : L2.St) : List Nat → List V → L2.St
  | i :: is, u :: us => setsS (σ.set i (some u)) is us
  | _, _ => σ
def setsR (ρ : Rho) : List Nat → List MV → Rho
  | i :: is, .d x :: ms => setsR (ρ.set i (.d x)) is ms
  | i :: is, .f ds :: ms => setsR (ρ.set i (.m ds)) is ms
  | i :: is, .g :: ms => setsR (ρ.set i (.k [])) is ms
  | _, _ => ρ
theorem setsS_out {i : Nat} {v : Option V} : ∀ {is : List Nat} {us : List V} {σ : L2.St}, i ∉ is → setsS (σ.set i v) is us = (setsS σ is us).set i v
  | [], _, _, _ => by unfold setsS; rfl
  | j :: is, [], _, _ => by unfold setsS; rfl
  | j :: is, u :: us, σ, h => by
    simp only [List.mem_cons, not_or] at h
    unfold setsS
    rw [List.set_comm _ _ h.1]
    exact setsS_out h.2
theorem setsR_out {i : Nat} {c : Cell} : ∀ {is : List Nat} {ms : List MV} {ρ : Rho}, i ∉ is → setsR (ρ.set i c) is ms = (setsR ρ is ms).set i c
  | [], _, _, _ => by unfold setsR; rfl
  | j :: is, [], _, _ => by unfold setsR; rfl
  | j :: is, .d x :: ms, ρ, h => by
    simp only [List.mem_cons, not_or] at h
    unfold setsR
    rw [List.set_comm _ _ h.1]
    exact setsR_out h.2
  | j :: is, .f x :: ms, ρ, h => by
    simp only [List.mem_cons, not_or] at h
    unfold setsR
    rw [List.set_comm _ _ h.1]
    exact setsR_out h.2
  | j :: is, .g :: ms, ρ, h => by
    simp only [List.mem_cons, not_or] at h
    unfold setsR
    rw [List.set_comm _ _ h.1]
    exact setsR_out h.2
/-- a name takes a new dict -/
theorem Ok.setK (o : Ok K T β G S σ ρ H) {i : Nat} {p : Addr} {l : List (Key × D)} {kvs : List (Key × V)} (f : Fre β G S σ ρ p) (h : H p = some (.dK kvs)) (ek : kvs.map (·.1) = l.map (·.1)) (r : Rps K T S (l.map (·.2)) (kvs.map (·.2))) : Ok K T β G S (σ.set i (some (.ref p))) (ρ.set i (.k l)) H where
  sh := o.sh
  gh := o.gh
  gs := o.gs
  gb := o.gb
  bx := o.bx
  len := by rw [List.length_set, List.length_set]; exact o.len
  cel := fun j c q => by
    by_cases hj : j = i
    · subst hj
      have hl : j < ρ.length := by have := (List.getElem?_eq_some_iff.mp q).1; rwa [List.length_set] at this
      have e := get_set_eq q
      subst e
      exact ⟨p, kvs, List.getElem?_set_self (by rw [o.len]; exact hl), h, f.s, f.g, f.b, ek, r⟩
    · rw [List.getElem?_set_ne (Ne.symm hj)] at q ⊢
      exact o.cel j c q
  dis := fun j k xs ys q1 q2 e => by
    have h1 : j ≠ i := fun z => by subst z; cases get_set_eq q1
    have h2 : k ≠ i := fun z => by subst z; cases get_set_eq q2
    rw [List.getElem?_set_ne (Ne.symm h1)] at q1 e
    rw [List.getElem?_set_ne (Ne.symm h2)] at q2 e
    exact o.dis j k xs ys q1 q2 e
theorem Ok.sets : ∀ {is : List Nat} {ms : List MV} {us : List V} {G G' : Hp}, is.Nodup → is.length = ms.length → Ok K T β G' S σ ρ H → Hold K T S G G' ms us → Ok K T β G S (setsS σ is us) (setsR ρ is ms) H
  | [], [], us, G, G', _, _, o, h => by
    obtain ⟨rfl, rfl⟩ := h
    unfold setsS setsR; exact o
  | i :: is, .d x :: ms, us, G, G', hn, hl, o, ⟨u, r, e1, rx, hs⟩ => by
    have hn' := List.nodup_cons.mp hn
    subst e1
    unfold setsS setsR
    rw [setsS_out hn'.1, setsR_out hn'.1]
    exact (Ok.sets hn'.2 (by simpa using hl) o hs).setD rx
  | i :: is, .f ds :: ms, us, G, G', hn, hl, o, ⟨p, vs, r, e1, hg, rx, hs⟩ => by
    have hn' := List.nodup_cons.mp hn
    subst e1
    unfold setsS setsR
    rw [setsS_out hn'.1, setsR_out hn'.1]
    obtain ⟨o1, fr, hv⟩ := (Ok.sets hn'.2 (by simpa using hl) o hs).unguard hg
    exact o1.setM fr hv rx
  | i :: is, .g :: ms, us, G, G', hn, hl, o, ⟨p, r, e1, hg, hs⟩ => by
    have hn' := List.nodup_cons.mp hn
    subst e1
    unfold setsS setsR
    rw [setsS_out hn'.1, setsR_out hn'.1]
    obtain ⟨o1, fr, hv⟩ := (Ok.sets hn'.2 (by simpa using hl) o hs).unguard hg
    exact o1.setK fr hv rfl rfl
  | [], _ :: _, _, _, _, _, hl, _, _ => by cases hl
  | _ :: _, [], _, _, _, _, hl, _, _ => by cases hl
theorem Hold.len : ∀ {ms : List MV} {us : List V} {G G' : Hp}, Hold K T S G G' ms us → us.length = ms.length
  | [], _, _, _, ⟨h, _⟩ => by rw [h]; rfl
  | .d x :: ms, _, _, _, ⟨u, r, e1, _, hs⟩ => by rw [e1, List.length_cons, List.length_cons, Hold.len hs]
  | .f x :: ms, _, _, _, ⟨p, vs, r, e1, _, _, hs⟩ => by rw [e1, List.length_cons, List.length_cons, Hold.len hs]
  | .g :: ms, _, _, _, ⟨p, r, e1, _, hs⟩ => by rw [e1, List.length_cons, List.length_cons, Hold.len hs]
def parS (is : List Nat) (fm : Rho → R (List MV)) : Rho → O := fun ρ => (fm ρ).thnO fun ms ρ1 => if is.length = ms.length then .nx (setsR ρ1 is ms) else .bad
theorem par_of {is : List Nat} {fm : Rho → R (List MV)} {De : Ends} {Q' : List V → Hp → Prop} (hn : is.Nodup) (h : rS K T W (parS is fm) De σ H)
    (hq : ∀ us H1, us.length = is.length → (∀ H2, Same H1 H2 → (∃ q u, H1 q = none ∧ H2 = upd H1 q u) ∨ H2 = H1 → De.nx (setsS σ is us) H2) → Q' us H1) : rM K T W fm σ H Q' := by
  obtain ⟨β, G, S, ρ, o, p⟩ := h
  refine ⟨β, G, S, ρ, o, ?_⟩
  unfold parS at p
  revert p
  cases fm ρ with
  | bad => exact fun p => p
  | err x ρ1 => exact fun p S1 H1 c d e o q => p S1 σ H1 c d e o q
  | ok ms ρ1 =>
    intro p S1 H1 us G' e1 o1 h1
    dsimp only [R.thnO] at p
    by_cases hl : is.length = ms.length
    · rw [if_pos hl] at p
      have o2 := Ok.sets hn hl o1 h1
      refine hq us H1 (by rw [h1.len, hl]) fun H2 e2 hh => ?_
      rcases hh with ⟨q, u, hq1, rfl⟩ | rfl
      · exact p S1 _ _ e1 (o2.ext (Ext.skip o2.sh hq1))
      · exact p S1 _ _ e1 o2
    · rw [if_neg hl] at p; exact p.elim
end
section
variable {X : Cx} {T : Tb} {W : WX} {pos px py pz pt pt2 : Pos} {kt k2 : Nat} {a b c : Expr} {fm : Rho → R (List MV)}
theorem us2 {us : List V} (h : us.length = 2) : ∃ v w, us = [v, w] := by
  cases us with
  | nil => cases h
  | cons v r => cases r with
    | nil => cases h
    | cons w r => cases r with
      | nil => exact ⟨v, w, rfl⟩
      | cons _ _ => simp at h
theorem us3 {us : List V} (h : us.length = 3) : ∃ v w z, us = [v, w, z] := by
  cases us with
  | nil => cases h
  | cons v r =>
    obtain ⟨w, z, rfl⟩ := us2 (us := r) (by simpa using h)
    exact ⟨v, w, z, rfl⟩
/-- a, b = x, y (plain locals) -/
theorem xs_par2 (i j : Nat) {x y : Str} (hc : X.calm = true) (hN : X.N.Nodup) (ha : XM X T W [a, b] fm) (hw : swappedStores [.Tuple [.Name x px, .Name y py] kt pt] (.Tuple [a, b] k2 pt2) X.env = pure (some [x, y]) := by rfl) (hij : i ≠ j := by decide) (hi : X.N[i]? = some x := by rfl) (hj : X.N[j]? = some y := by rfl)
    (hx : X.env.scope.names.lookup x = some .local := by rfl) (hy : X.env.scope.names.lookup y = some .local := by rfl)
    (hs : swapsWithSole [.Tuple [.Name x px, .Name y py] kt pt] (.Tuple [a, b] k2 pt2) pos.line X.env = pure false := by rfl) :
    XS X T W (.Assign [.Tuple [.Name x px, .Name y py] kt pt] (.Tuple [a, b] k2 pt2) pos) (parS [i, j] fm) :=
  (ps_par hc hN hi hj hij hx hy ha hw hs).impQ fun De σ H q => par_of (is := [i, j]) (by simp [hij]) q fun us H1 hl k => by
    obtain ⟨v, w, rfl⟩ := us2 hl
    exact ⟨v, w, rfl, k H1 (Same.refl _) (.inr rfl)⟩
/-- targets that are names, told by slots -/
def gNames : List Nat → TGs := fun is vs σ H Q => vs.length = is.length ∧ Q (setsS σ is vs) H
theorem pgs_names : ∀ {is : List Nat} {es : List Expr} {t : TGs}, PGs X es t → (∀ vs σ H Q, gNames is vs σ H Q → t vs σ H Q) → PGs X es (gNames is) := fun h i => h.impQ i
theorem gn_nil (vs : List V) (σ : L2.St) (H : Hp) (Q : L2.St → Hp → Prop) (h : gNames [] vs σ H Q) : gNil vs σ H Q := by
  obtain ⟨h1, h2⟩ := h
  have : vs = [] := List.length_eq_zero_iff.mp h1
  subst this
  exact ⟨rfl, h2⟩
theorem gn_cons {i : Nat} {is : List Nat} {u : TGs} (hu : ∀ vs σ H Q, gNames is vs σ H Q → u vs σ H Q) (vs : List V) (σ : L2.St) (H : Hp) (Q : L2.St → Hp → Prop) (h : gNames (i :: is) vs σ H Q) : gCons (gName i) u vs σ H Q := by
  obtain ⟨h1, h2⟩ := h
  cases vs with
  | nil => cases h1
  | cons v r => exact ⟨v, r, rfl, hu r _ H Q ⟨by simpa using h1, h2⟩⟩
/-- (names) = (values): the tuple is made and taken apart -/
theorem xs_parN {is : List Nat} {ts es : List Expr} {n : Nat} (hc : X.calm = true) (hn : is.Nodup) (hl : is.length = n) (hf : fits n = true) (ha : XM X T W es fm) (hg : PGs X ts (gNames is)) (hln : (assignEach ts X.env).length = n := by rfl) (hst : (assignEach ts X.env).findIdx? (·.1) = none := by rfl)
    (hs : swapsWithSole [.Tuple ts kt pt] (.Tuple es k2 pt2) pos.line X.env = pure false := by rfl) (hw : swappedStores [.Tuple ts kt pt] (.Tuple es k2 pt2) X.env = pure none := by rfl)
    (h1 : (assignEach [.Tuple ts kt pt] X.env).map (·.2) = [assign (.Tuple ts kt pt) X.env] := by rfl) :
    XS X T W (.Assign [.Tuple ts kt pt] (.Tuple es k2 pt2) pos) (parS is fm) :=
  (ps_asg (pe_tup ha) (pg_tup hc hg hln hst) hs hw h1).impQ fun De σ H q => par_of hn q fun us H1 hlu k => by
    refine ⟨by rw [hlu, hl]; exact fits_line hf, fun p hp => ⟨p, us, rfl, SqT.of upd_same, by rw [hlu, hl], hlu, k _ (same_new hp) (.inl ⟨p, _, hp, rfl⟩)⟩⟩
end
end Lq
namespace Lq
open PySem PySem.Spec PyProof.Rows L2
/-! ### defs that draw from the box: their first argument -/
structure ExtB (T : Tb) (b : Addr) (ns' : List Int) (S H S' H' : Hp) : Prop where
  s : Same S S'
  h : ∀ c o, c ≠ b → H c = some o → (n : NoTb o := by first | exact fun _ z => nomatch z | assumption) → H' c = some o
  ht : ∀ c ps, c ≠ b → H c = some (.tbl ps) → ∃ qs, H' c = some (.tbl qs)
  bx : H' b = some (.lst (ns'.map V.int))
  sh : SameT T S' H'
  fr : ∀ c o, H c = some o → NoT o → S c = none → S' c = none
def spB (K : PySem.W.Frag) (T : Tb) (n : Nat) (F : List Int → List D → Option (D × List Int)) : Sp := fun vs H Q _ => ∃ S b ns ws ds, vs = .ref b :: ws ∧ SameT T S H ∧ S b = none ∧ H b = some (.lst (ns.map V.int)) ∧ Rps K T S ds ws ∧ ds.length = n ∧
  match F ns ds with
  | some (d, ns') => ∀ S' H' v, ExtB T b ns' S H S' H' → Rp K T S' d v → Q v H'
  | none => False
def boxAt (ρ : Rho) (d : D) : Option (D × List Int) := match ρ[0]? with | some (Cell.b ns) => some (d, ns) | _ => none
def runB (a n : Nat) (f : Rho → O) (ns : List Int) (ds : List D) : Option (D × List Int) := if ds.length = a then (match f (.b ns :: startR n ds) with
  | .nx ρ => boxAt ρ .non
  | .rt v ρ => (match v with
    | .d x => boxAt ρ x
    | .sl i => (match ρ[i]? with | some (.m xs) => boxAt ρ (.lst xs) | _ => none))
  | .rf ds ρ => boxAt ρ (.lst ds)
  | _ => none) else none
theorem runB_len {a n : Nat} {f : Rho → O} (ns : List Int) (ds : List D) (h : runB a n f ns ds ≠ none) : ds.length = a := by
  unfold runB at h
  split at h
  · assumption
  · exact (h rfl).elim
def besidesB (b : Addr) (S H : Hp) : Hp := fun c => if c = b then none else besides S H c
section
variable {K : PySem.W.Frag} {T : Tb} {S S' H : Hp}
theorem bb_ne {b c : Addr} (h : c ≠ b) : besidesB b S H c = besides S H c := by unfold besidesB; rw [if_neg h]
theorem bb_self {b : Addr} : besidesB b S H b = none := by unfold besidesB; rw [if_pos rfl]
theorem bb_of {b c : Addr} {o : HO} (e : besidesB b S H c = some o) : c ≠ b ∧ besides S H c = some o := by
  by_cases h : c = b
  · subst h; rw [bb_self] at e; cases e
  · rw [bb_ne h] at e; exact ⟨h, e⟩
theorem boxAt_of {β : Bt} {G : Hp} {σ : L2.St} {ρ : Rho} {d d' : D} {ns' : List Int} (o : Ok K T β G S σ ρ H) (h : boxAt ρ d = some (d', ns')) : d' = d ∧ ∃ b, β = .bx b ∧ H b = some (.lst (ns'.map V.int)) := by
  unfold boxAt at h
  split at h
  · rename_i ns q
    cases h
    obtain ⟨a, _, e2, e3⟩ := o.cel 0 _ q
    exact ⟨rfl, a, e2, e3⟩
  · cases h
end
section
variable {P : Program} {w : World} {K : PySem.W.Frag} {mg : Str → Option Value} {base : Heap} {T : Tb}
theorem fn_box {x qual : Str} {st : Stmt} {f : Addr} {fd : FuncData} {N ps : List Str} {k n m : Nat} {g : Rho → O} (F : Fun K x qual st f fd) (Sc : FnScope N ps (defScope st)) (hlen : ps.length ≤ N.length) (hps : ps.length = n + 1) (hN : N.length = m + 1)
    (hbody : ∀ (cdv : Value) (A : Around) (outer : List PySem.Env) (s : Shared) (H : Hp) (E : XK), Room k (A.deeper (envOfC qual (defScope st) s.heap.objs.size f cdv)) →
      PassesOwn (model P w) (cxOf (L2.CX P w) P w K mg base N qual (defScope st) f cdv A outer s H E).A (cxOf (L2.CX P w) P w K mg base N qual (defScope st) f cdv A outer s H E).env (cxOf (L2.CX P w) P w K mg base N qual (defScope st) f cdv A outer s H E).xe →
      XB (cxOf (L2.CX P w) P w K mg base N qual (defScope st) f cdv A outer s H E) T W0 (defBody st) g) :
    FnOk P w K mg base (L2.CX P w) (k + 1) f fd ps (spB K T n (runB n m g)) := by
  refine F.okX Sc (fun vs H Q E h => ?_) (fun cdv A outer s H vs Q E hr h => ?_)
  · obtain ⟨S, b, ns, ws, ds, rfl, e, _, _, r, hl, _⟩ := h
    rw [List.length_cons, r.len, hl, hps]
  · obtain ⟨S, b, ns, ws, ds, rfl, e, hb, hbx, r, hl, p⟩ := h
    refine ⟨_, hbody cdv A outer s H E hr (passes_of rfl), .bx b, besidesB b S H, S, .b ns :: startR m ds, ?_, ?_⟩
    · refine ⟨e, besides_same.step fun c o q => .inr ⟨(bb_of q).2, rfl⟩, fun c o q _ => besides_apart (bb_of q).2, fun c q => ?_, fun c q => ?_, ?_, fun i c q => ?_, fun i j xs ys q => ?_⟩
      · cases q; exact ⟨bb_self, hb⟩
      · cases q; exact ⟨_, hbx, fun _ z => nomatch z⟩
      · unfold L2.start startR
        simp only [List.length_append, List.length_map, List.length_cons, List.length_replicate]
        rw [r.len, hN]
        omega
      · cases i with
        | zero =>
          simp at q; subst q
          exact ⟨b, by simp [L2.start], rfl, hbx⟩
        | succ i =>
          have := start_cell (n := N.length - (ws.length + 1)) (k := m - ds.length) (i := i) (c := c) (H := H) (β := .bx b) (G := besidesB b S H) r (by simpa [startR] using q)
          have this2 : CellOk K T (.bx b) (besidesB b S H) S H (L2.start N (V.ref b :: ws))[i + 1]? c := by simpa [L2.start] using this
          exact this2
      · cases i with
        | zero => simp at q
        | succ i => exact (start_noM (i := i) (by simpa [startR] using q)).elim
    · have fin : ∀ {S' σ' ρ' H' d d' ns'}, Same S S' → Ok K T (.bx b) (besidesB b S H) S' σ' ρ' H' → boxAt ρ' d = some (d', ns') → d' = d ∧ ExtB T b ns' S H S' H' := fun {S' σ' ρ' H' d d' ns'} e1 o hba => by
        obtain ⟨e2, b', e3, e4⟩ := boxAt_of o hba
        cases e3
        refine ⟨e2, e1, fun c u hc q n => ?_, fun c ps hc q => ?_, e4, o.sh, fun c u q n z => ?_⟩
        · cases z : S c with
          | none => exact o.gh.at_ c u (by rw [bb_ne hc]; exact besides_of q z) n
          | some u' => have := e.eq z q n; subst this; exact o.sh.at_ c _ (e1.at_ c _ z n) n
        · cases z : S c with
          | none => exact o.gh.tb c ps (by rw [bb_ne hc]; exact besides_of q z)
          | some u' =>
            by_cases nu : ∃ qs, u' = .tbl qs
            · obtain ⟨qs, rfl⟩ := nu
              obtain ⟨rs, w⟩ := e1.tb c qs z
              exact o.sh.tb c rs w
            · have := e.at_ c u' z fun qs w => nu ⟨qs, w⟩
              rw [q] at this; cases this; exact (nu ⟨ps, rfl⟩).elim
        · by_cases hc : c = b
          · subst hc; exact (o.gb c rfl).2
          · exact o.gs c u (by rw [bb_ne hc]; exact besides_of q z) n
      unfold runB at p
      rw [if_pos hl] at p
      revert p
      cases g (.b ns :: startR m ds) with
      | nx ρ' =>
        intro p S' σ' H' e1 o
        dsimp only at p
        cases q : boxAt ρ' .non with
        | none => rw [q] at p; exact p.elim
        | some dn =>
          rw [q] at p
          obtain ⟨e2, x2⟩ := fin e1 o q
          exact p S' H' .non x2 (by rw [e2]; rfl)
      | rt v ρ' =>
        intro p S' σ' H' u e1 o hv
        cases v with
        | d x =>
          dsimp only at p
          cases q : boxAt ρ' x with
          | none => rw [q] at p; exact p.elim
          | some dn =>
            rw [q] at p
            obtain ⟨e2, x2⟩ := fin e1 o q
            exact p S' H' u x2 (by rw [e2]; exact hv)
        | sl i =>
          dsimp only at p
          cases qi : ρ'[i]? with
          | none => rw [qi] at p; exact p.elim
          | some c =>
            rw [qi] at p
            cases c with
            | m xs =>
              dsimp only at p
              obtain ⟨a, vs', e2, e3, e4, r', o2⟩ := o.frzSlot qi
              have : σ'[i]? = some (some u) := hv
              rw [e2] at this; cases this
              cases q : boxAt ρ' (.lst xs) with
              | none => rw [q] at p; exact p.elim
              | some dn =>
                rw [q] at p
                have q' : boxAt (ρ'.set i (.d (.lst xs))) (.lst xs) = some dn := by
                  unfold boxAt at q ⊢
                  have hi : i ≠ 0 := fun z => by subst z; rw [qi] at q; cases q
                  rw [List.getElem?_set_ne hi]; exact q
                obtain ⟨e5, x2⟩ := fin (e1.trans (same_new e4)) o2 q'
                exact p _ H' (.ref a) x2 (by rw [e5]; exact ⟨a, vs', rfl, upd_same, Rps.mono (same_new e4) _ _ r'⟩)
            | _ => exact p.elim
      | rf ds' ρ' =>
        intro p S' σ' H' a vs' e1 o fr hv r'
        dsimp only at p
        cases q : boxAt ρ' (.lst ds') with
        | none => rw [q] at p; exact p.elim
        | some dn =>
          rw [q] at p
          obtain ⟨e5, x2⟩ := fin (e1.trans (same_new fr.s)) (o.freeze fr hv) q
          exact p _ H' (.ref a) x2 (by rw [e5]; exact ⟨a, vs', rfl, upd_same, Rps.mono (same_new fr.s) _ _ r'⟩)
      | err x ρ' => exact fun p => p.elim
      | bk ρ' => exact fun p => p.elim
      | ct ρ' => exact fun p => p.elim
      | bad => exact fun p => p.elim
end
def isB : Cell → Bool
  | .b _ => true
  | _ => false
def onlyB (i : Nat) (ρ : Rho) : Bool := (ρ.set i .no).all fun c => !isB c
def callBE (F : List Int → List D → Option (D × List Int)) (fs : Rho → R (List VD)) : Rho → R VD := fun ρ => (fs ρ).bind fun vs ρ1 => match vs with
  | .sl i :: ws => (match ρ1[i]?, datAll ws with
    | some (.b ns), some ds => if onlyB i ρ1 then (match F ns ds with | some (d, ns') => .ok (.d d) (ρ1.set i (.b ns')) | none => .bad) else .bad
    | _, _ => .bad)
  | _ => .bad
section
variable {K : PySem.W.Frag} {T : Tb} {W : WX} {β : Bt} {G S S' H : Hp} {σ : L2.St} {ρ : Rho}
theorem ExtB.hs {b : Addr} {ns' : List Int} {S H S' H' : Hp} (e : ExtB T b ns' S H S' H') {c : Addr} {o : HO} (hc : c ≠ b) (h : H c = some o) (n : NoT o) : ∃ u, H' c = some u ∧ NoT u := by
  by_cases z : ∃ ps, o = .tbl ps
  · obtain ⟨ps, rfl⟩ := z
    obtain ⟨qs, w⟩ := e.ht c ps hc h
    exact ⟨_, w, fun _ z => nomatch z⟩
  · exact ⟨o, e.h c o hc h fun ps w => z ⟨ps, w⟩, n⟩
/-- G stays where b is none of it -/
theorem ExtB.gh {b : Addr} {ns' : List Int} {G S H S' H' : Hp} (e : ExtB T b ns' S H S' H') (g : Same G H) (gb : G b = none) : Same G H' := ⟨fun c u q n => e.h c u (fun z => by subst z; rw [gb] at q; cases q) (g.at_ c u q n) n, fun c ps q => by
  obtain ⟨qs, w⟩ := g.tb c ps q
  exact e.ht c qs (fun z => by subst z; rw [gb] at q; cases q) w⟩
theorem ExtB.gs {b : Addr} {ns' : List Int} {G S H S' H' : Hp} (e : ExtB T b ns' S H S' H') (g : Same G H) {c : Addr} {u : HO} (q : G c = some u) (n : NoT u) (s : S c = none) : S' c = none := by
  obtain ⟨v, h1, n1⟩ := g.there q n
  exact e.fr c v h1 n1 s
theorem Ok.extB {b : Addr} {ns' : List Int} {H' : Hp} {i : Nat} {ns : List Int} (o : Ok K T (.bx b) G S σ ρ H) (e : ExtB T b ns' S H S' H') (hi : ρ[i]? = some (.b ns)) (hob : onlyB i ρ = true) : Ok K T (.bx b) G S' σ (ρ.set i (.b ns')) H' where
  sh := e.sh
  gh := e.gh o.gh (o.gb b rfl).1
  gs := fun c u q n => e.gs o.gh q n (o.gs c u q n)
  gb := fun c q => by
    cases q
    obtain ⟨ms, hb, hn⟩ := o.bx b rfl
    exact ⟨(o.gb b rfl).1, (e.fr b _ hb hn ((o.gb b rfl).2))⟩
  bx := fun c q => by cases q; exact ⟨_, e.bx, fun _ z => nomatch z⟩
  len := by rw [List.length_set]; exact o.len
  cel := fun j c q => by
    by_cases hj : j = i
    · subst hj
      have := get_set_eq q
      subst this
      obtain ⟨a, e1, e2, e3⟩ := o.cel j _ hi
      cases e2
      exact ⟨b, e1, rfl, e.bx⟩
    · rw [List.getElem?_set_ne (Ne.symm hj)] at q
      have h1 := o.cel j c q
      cases c with
      | no => trivial
      | d x => obtain ⟨u, e1, r⟩ := h1; exact ⟨u, e1, Rp.mono e.s _ _ r⟩
      | m xs =>
        obtain ⟨a, vs, e1, e2, e3, e4, e5, r⟩ := h1
        exact ⟨a, vs, e1, e.h _ _ (fun z => e5 (by rw [z])) e2, (e.fr _ _ e2 (fun _ z => nomatch z) e3), e4, e5, Rps.mono e.s _ _ r⟩
      | k l =>
        obtain ⟨a, kvs, e1, e2, e3, e4, e5, ek, r⟩ := h1
        exact ⟨a, kvs, e1, e.h _ _ (fun z => e5 (by rw [z])) e2, (e.fr _ _ e2 (fun _ z => nomatch z) e3), e4, e5, ek, Rps.mono e.s _ _ r⟩
      | kt l =>
        obtain ⟨a, kvs, e1, e2, e3, e4, e5, ek, r⟩ := h1
        exact ⟨a, kvs, e1, e.h _ _ (fun z => e5 (by rw [z])) e2, (e.fr _ _ e2 (fun _ z => nomatch z) e3), e4, e5, ek, Rps.mono e.s _ _ r⟩
      | b ms =>
        exfalso
        unfold onlyB at hob
        have hm : Cell.b ms ∈ ρ.set i .no := List.mem_of_getElem? (i := j) (by rw [List.getElem?_set_ne (Ne.symm hj)]; exact q)
        have := List.all_eq_true.mp hob _ hm
        cases this
      | s t =>
        obtain ⟨a, dx, e1, e2, _⟩ := h1
        cases e2
  dis := fun j l xs ys q1 q2 e1 => by
    have h1 : j ≠ i := fun z => by subst z; cases get_set_eq q1
    have h2 : l ≠ i := fun z => by subst z; cases get_set_eq q2
    rw [List.getElem?_set_ne (Ne.symm h1)] at q1
    rw [List.getElem?_set_ne (Ne.symm h2)] at q2
    exact o.dis j l xs ys q1 q2 e1
theorem callB_of {F : List Int → List D → Option (D × List Int)} {n : Nat} {fs : Rho → R (List VD)} {Q : VK} (hn : ∀ ns ds, F ns ds ≠ none → ds.length = n) (h : rE K T W (callBE F fs) σ H Q) : tCallS (spB K T n F) (WE W) (rA K T W fs) σ H Q := by
  obtain ⟨β, G, S, ρ, o, p⟩ := h
  refine ⟨β, G, S, ρ, o, Post.thn (Rl := RpVs K T σ) p fun S1 H1 ρ1 vs us e1 o1 h1 p1 => ?_⟩
  split at p1
  case h_2 => exact p1.elim
  case h_1 i ws =>
  split at p1
  case h_2 => exact p1.elim
  case h_1 ns ds q1 q2 =>
  split at p1
  case isFalse => exact p1.elim
  case isTrue hob =>
  obtain ⟨u, r, e2, hu, hr⟩ := h1
  obtain ⟨a, f1, f2, f3⟩ := o1.cel i _ q1
  have : σ[i]? = some (some u) := hu
  rw [f1] at this; cases this
  subst f2
  refine ⟨S1, a, ns, r, ds, e2, o1.sh, (o1.gb a rfl).2, f3, datAll_rps q2 hr, hn ns ds (fun z => by rw [z] at p1; exact p1), ?_⟩
  revert p1
  cases F ns ds with
  | none => exact fun p1 => p1
  | some dn => exact fun p1 S2 H2 v x2 rv => p1 S2 H2 v x2.s (o1.extB x2 q1 hob) rv
end
section
variable {X : Cx} {T : Tb} {W : WX} {e : Expr} {es : List Expr} {fs : Rho → R (List VD)} {pos : Pos}
theorem xe_callBx {F : List Int → List D → Option (D × List Int)} {k : Nat} {f : Addr} {fd : FuncData} {ps : List Str} {n : Nat} {x : Str} {p : Pos} (Fk : FnOk X.prog X.w X.K X.mg X.base (L2.CX X.prog X.w) k f fd ps (spB X.K T n F)) (hr : Room k X.A) (hm : X.mg x = some (.ref f)) (hk : PySem.W.keepIn X.K (.ref f) = true) (hb : Binds X.K fd ps [])
    (tk : Takes X W) (hn : ∀ ns ds, F ns ds ≠ none → ds.length = n) (ha : XA X T W (e :: es) fs) (hg : L2.Gl X x := by rfl) (hdb : (x == ("__debug__" : Str)) = false := by decide) (he : starEach (e :: es) X.env = (false, eval e X.env) :: starEach es X.env := by rfl) (hpl : (backTo pos (starEach es X.env)).any (·.1) = false := by rfl) :
    XE X T W (.Call (.Name x p) (e :: es) [] pos) (callBE F fs) :=
  (pe_callS Fk hr hg hm hk hb (fun σ => passAt tk σ) ha hdb he hpl).impQ fun _ _ _ h => callB_of hn h
end
/-! ### a list of a slot's own is changed -/
section
variable {K : PySem.W.Frag} {T : Tb} {W : WX} {β : Bt} {G S S' H : Hp} {σ : L2.St} {ρ : Rho}
theorem Ok.updM {i : Nat} {xs ys : List D} {a : Addr} {ws : List V} (o : Ok K T β G S σ ρ H) (hi : ρ[i]? = some (.m xs)) (ha : σ[i]? = some (some (.ref a))) (r : Rps K T S ys ws) : Ok K T β G S σ (ρ.set i (.m ys)) (upd H a (.lst ws)) := by
  obtain ⟨a', vs, e1, e2, e3, e4, e5, r0⟩ := o.cel i _ hi
  rw [ha] at e1; cases e1
  refine ⟨o.sh.step (Keep.upd e2) fun b u q => .inr ⟨q, upd_ne (fun z => by subst z; rw [e3] at q; cases q)⟩, o.gh.step fun b u q => .inr ⟨q, upd_ne (fun z => by subst z; rw [e4] at q; cases q)⟩, o.gs, o.gb, fun b q => ?_, by rw [List.length_set]; exact o.len, fun j c q => ?_, fun j l us vs' q1 q2 e => ?_⟩
  · rw [upd_ne (fun z => e5 (by rw [q, z]))]; exact o.bx b q
  · by_cases hj : j = i
    · subst hj
      have := get_set_eq q
      subst this
      exact ⟨a, ws, ha, upd_same, e3, e4, e5, r⟩
    · rw [List.getElem?_set_ne (Ne.symm hj)] at q
      have h1 := o.cel j c q
      cases c with
      | no => trivial
      | d x => exact h1
      | m zs =>
        obtain ⟨a2, vs2, f1, f2, f3, f4, f5, r2⟩ := h1
        have hne : a2 ≠ a := fun z => hj (o.dis j i zs xs q hi (by rw [f1, ha, z]))
        exact ⟨a2, vs2, f1, by rw [upd_ne hne]; exact f2, f3, f4, f5, r2⟩
      | k l =>
        obtain ⟨a2, kvs2, f1, f2, f3, f4, f5, fk, r2⟩ := h1
        have hne : a2 ≠ a := fun z => by rw [z, e2] at f2; cases f2
        exact ⟨a2, kvs2, f1, by rw [upd_ne hne]; exact f2, f3, f4, f5, fk, r2⟩
      | kt l =>
        obtain ⟨a2, kvs2, f1, f2, f3, f4, f5, fk, r2⟩ := h1
        have hne : a2 ≠ a := fun z => by rw [z, e2] at f2; cases f2
        exact ⟨a2, kvs2, f1, by rw [upd_ne hne]; exact f2, f3, f4, f5, fk, r2⟩
      | b ns =>
        obtain ⟨a2, f1, f2, f3⟩ := h1
        have hne : a2 ≠ a := fun z => e5 (by rw [f2, z])
        exact ⟨a2, f1, f2, by rw [upd_ne hne]; exact f3⟩
      | s t =>
        obtain ⟨a2, dx, f1, f2, f3, f4, f5, f6, f7, f8⟩ := h1
        have hne : a2 ≠ a := fun z => by rw [z, e2] at f3; cases f3
        have hd : dx ≠ a := fun z => by rw [z, e2] at f4; cases f4
        exact ⟨a2, dx, f1, f2, by rw [upd_ne hne]; exact f3, by rw [upd_ne hd]; exact f4, f5, f6, f7, f8⟩
  · by_cases h1 : j = i
    · by_cases h2 : l = i
      · rw [h1, h2]
      · rw [List.getElem?_set_ne (Ne.symm h2)] at q2
        exact h1.trans (o.dis i l xs vs' hi q2 (by rw [← h1]; exact e))
    · rw [List.getElem?_set_ne (Ne.symm h1)] at q1
      by_cases h2 : l = i
      · exact (o.dis j i us xs q1 hi (by rw [← h2]; exact e)).trans h2.symm
      · rw [List.getElem?_set_ne (Ne.symm h2)] at q2
        exact o.dis j l us vs' q1 q2 e
end
/-- o.append(e), o a slot's own list -/
def appE (i : Nat) (fs : Rho → R (List VD)) : Rho → R VD := fun ρ => match ρ[i]? with
  | some (.m _) => (fs ρ).bind fun vs ρ1 => (match ρ1[i]?, vs with
    | some (.m xs), [.d y] => if fits (xs.length + 1) then .ok (.d .non) (ρ1.set i (.m (xs ++ [y]))) else .bad
    | _, _ => .bad)
  | _ => .bad
/-- o.pop(k) -/
def popE (i : Nat) (fs : Rho → R (List VD)) : Rho → R VD := fun ρ => match ρ[i]? with
  | some (.m _) => (fs ρ).bind fun vs ρ1 => (match ρ1[i]?, vs with
    | some (.m xs), [.d (.int k)] => if decide (0 ≤ k) && decide (k < 1000000) then (match xs[k.toNat]? with | some y => .ok (.d y) (ρ1.set i (.m (xs.eraseIdx k.toNat))) | none => .bad) else .bad
    | _, _ => .bad)
  | _ => .bad
theorem Rps.erase {K : PySem.W.Frag} {T : Tb} {S : Hp} : ∀ {ds : List D} {vs : List V} (k : Nat), Rps K T S ds vs → Rps K T S (ds.eraseIdx k) (vs.eraseIdx k)
  | [], _, _, h => by rw [show _ = [] from h]; exact rfl
  | d :: ds, _, 0, ⟨v, r, e1, h, hs⟩ => by rw [e1]; exact hs
  | d :: ds, _, k + 1, ⟨v, r, e1, h, hs⟩ => by rw [e1]; exact ⟨v, _, rfl, h, Rps.erase k hs⟩
section
variable {X : Cx} {T : Tb} {W : WX} {e : Expr} {es : List Expr} {fs : Rho → R (List VD)} {pos : Pos}
/-- what a method asks of a slot's own list -/
theorem slotM_of {K : PySem.W.Frag} {i : Nat} {r : V → List V → Hp → VK → Prop} {σ : L2.St} {H : Hp} {Q : VK} {fe : Rho → R VD} {k : List VD → Rho → R VD} (he : ∀ ρ, fe ρ = match ρ[i]? with | some (.m _) => (fs ρ).bind k | _ => .bad)
    (hk : ∀ {β G S H ρ vs us a}, Ok K T β G S σ ρ H → RpVs K T σ S vs us → σ[i]? = some (some (.ref a)) → Post K T W β G S σ (RpV K T σ) (k vs ρ) Q → r (.ref a) us H Q) (h : rE K T W fe σ H Q) : tBM K "list" r (tVar i) (rA K T W fs) σ H Q := by
  obtain ⟨β, G, S, ρ, o, p⟩ := h
  rw [he] at p
  cases q : ρ[i]? with
  | none => rw [q] at p; exact p.elim
  | some c =>
    rw [q] at p
    cases c with
    | m xs =>
      obtain ⟨a, vs, e1, e2, _⟩ := o.cel i _ q
      refine ⟨.ref a, e1, .inl ⟨rfl, vs, SqL.of e2⟩, β, G, S, ρ, o, Post.thn (Rl := RpVs K T σ) p fun S1 H1 ρ1 ws us e3 o1 h1 p1 => hk o1 h1 e1 p1⟩
    | _ => exact p.elim
theorem xe_append (i : Nat) {x : Str} {px apos cpos : Pos} (ha : XA X T W (e :: es) fs) (hN : X.N[i]? = some x := by rfl) (hv : Vis X.env.scope x := by first | exact Or.inl rfl | exact Or.inr (Or.inl rfl) | exact Or.inr (Or.inr rfl)) (hd : (x == ("__debug__" : Str)) = false := by decide) (hcd : (x == ("__classdict__" : Str)) = false := by decide)
    (hbase : attributeBase (.Name x px) "append" X.env (eval (.Name x px) X.env) = eval (.Name x px) X.env := by rfl)
    (hfew : ((backTo cpos (starEach (e :: es) X.env)).all (fun x => !x.1) && (backToKw cpos (keywordEach [] X.env)).all (fun x => x.1.isSome) && decide ((e :: es).length + ([] : List Keyword).length + (if ([] : List Keyword).isEmpty then 0 else 1) < 30)) = true := by rfl)
    (hline : (apos.endLine == cpos.line) = true := by rfl) (hs : starEach (e :: es) X.env = (false, eval e X.env) :: starEach es X.env := by rfl) (hplain : (backTo cpos (starEach es X.env)).any (·.1) = false := by rfl) :
    XE X T W (.Call (.Attribute (.Name x px) "append" apos) (e :: es) [] cpos) (appE i fs) :=
  (pe_bm PySem.F.plainAttrs_list PySem.F.slot_list_append PySem.F.type_list_append mt_append (pe_var hN hv hd hcd) ha hbase hfew hline hs hplain).impQ fun σ H Q h => by
    refine slotM_of (i := i) (fe := appE i fs) (k := fun vs ρ1 => match ρ1[i]?, vs with | some (.m xs), [.d y] => if fits (xs.length + 1) then .ok (.d .non) (ρ1.set i (.m (xs ++ [y]))) else .bad | _, _ => .bad) (fun ρ => rfl) (fun {β G S H ρ vs us a} o hu ha p => ?_) h
    split at p
    · rename_i xs y q
      split at p
      · rename_i hf
        obtain ⟨b, ws, e1, e2, e3, e4, e5, r⟩ := o.cel i _ q
        rw [ha] at e1; cases e1
        obtain ⟨u, rfl, hy⟩ := hu.one
        refine ⟨a, ws, u, rfl, rfl, e2, by rw [r.len]; exact Nat.lt_of_succ_le (fits_line hf), ?_⟩
        exact p S _ .non (Same.refl _) (o.updM q ha (r.append (Rps.one hy))) rfl
      · exact p.elim
    · exact p.elim
end
end Lq
namespace Lq
open PySem PySem.Spec PyProof.Rows L2
/-! ### isinstance -/
def tyName : D → String
  | .non => "NoneType"
  | .bl _ => "bool"
  | .int _ => "int"
  | .str _ => "str"
  | .lst _ => "list"
  | .tup _ => "tuple"
  | .obj _ _ => "?"
  | .scr _ => "?"
def isiB (d : D) (t : String) : Bool := tyName d == t || (tyName d == "bool" && t == "int")
theorem kb_all : ∀ a ∈ ["NoneType", "bool", "int", "str", "list", "tuple"], ∀ b ∈ ["int", "str", "bool", "list", "tuple"], kitB a b = some (a == b || (a == "bool" && b == "int")) := by decide +kernel
def notObj : D → Bool
  | .obj _ _ => false
  | .scr _ => false
  | _ => true
theorem ty_mem {d : D} (h : notObj d = true) : tyName d ∈ ["NoneType", "bool", "int", "str", "list", "tuple"] := by
  cases d <;> first | (simp [tyName]; done) | cases h
section
variable {K : PySem.W.Frag} {T : Tb} {S H : Hp}
theorem RpH.ty {d : D} {v : V} (h : RpH K T S H d v) (e : SameT T S H) (hn : notObj d = true) : TyX K H v (.type (tyName d)) := by
  cases d with
  | non => rw [h.non]; exact .base .non
  | bl b => rw [h.bl]; exact .base (.bl b)
  | int b => rw [h.int]; exact .base (.int b)
  | str b => rw [h.str]; exact .base (.str b)
  | lst xs => obtain ⟨a, vs, rfl, q, _⟩ := h.lst e; exact .base (.lst q)
  | tup xs =>
    obtain ⟨a, vs, rfl, q, _⟩ := h.tup e
    rcases q with (q | ⟨o, q⟩) | ⟨o, its, n, hk, hc, _⟩
    · exact .base (.tup q)
    · exact .fTuple q
    · exact .kTuple hk hc
  | obj _ _ => cases hn
  | scr _ => cases hn
end
def isiE (ts : List String) (fa : Rho → R VD) : Rho → R VD := fun ρ => (fa ρ).bind fun v ρ1 => match res v ρ1 with
  | some d => if notObj d then .ok (.d (.bl (ts.any (isiB d)))) ρ1 else .bad
  | none => .bad
section
variable {X : Cx} {T : Tb} {W : WX} {e : Expr} {es : List Expr} {fa : Rho → R VD} {fs : Rho → R (List VD)} {pos : Pos}
theorem xe_isi1 {t : String} {x : Str} {p p2 : Pos} (hm : X.mg "isinstance" = none) (hv : bootBuiltins "isinstance" = some (.builtin "isinstance")) (hmt : X.mg x = none) (hvt : bootBuiltins x = some (.type t)) (he : XE X T W e fa) (ht : t ∈ ["int", "str", "bool", "list", "tuple"]) (hg : L2.Gl X "isinstance" := by rfl) (hgt : L2.Gl X x := by rfl)
    (hn : x ≠ "__name__" := by decide) (hd : (x == ("__debug__" : Str)) = false := by decide)
    (h1 : starEach [e, .Name x p2] X.env = (false, eval e X.env) :: starEach [.Name x p2] X.env := by rfl) (h2 : starEach [.Name x p2] X.env = (false, eval (.Name x p2) X.env) :: starEach [] X.env := by rfl) (hpl : (backTo pos (starEach [.Name x p2] X.env)).any (·.1) = false := by rfl) :
    XE X T W (.Call (.Name "isinstance" p) [e, .Name x p2] [] pos) (isiE [t] fa) :=
  (pe_callB call_isi hg hm hv (pa_cons he (pa_cons (pe_bltn (v := .ty t) hgt hmt hvt rfl hn hd) pa_nil h2) h1) (by decide) (by decide) h1 hpl).impQ fun σ H Q h => by
    obtain ⟨β, G, S, ρ, o, p⟩ := h
    refine ⟨β, G, S, ρ, o, Post.thn (Rl := RpV X.K T σ) p fun S1 H1 ρ1 v u e1 o1 h1 p1 => ?_⟩
    split at p1
    · rename_i d q
      split at p1
      · rename_i hno
        refine ⟨u, .ty t, .type (tyName d), .type t, _, rfl, .ty t, (o1.res h1 q).ty o1.sh hno, kit_ty (kb_all _ (ty_mem hno) t ht), ?_⟩
        have := p1 S1 H1 (.bl ([t].any (isiB d))) (Same.refl _) o1 rfl
        simpa [isiB] using this
      · exact p1.elim
    · exact p1.elim
theorem xe_isi2 {t t' : String} {x x' : Str} {p p2 p3 p4 : Pos} {kt : Nat} (hm : X.mg "isinstance" = none) (hv : bootBuiltins "isinstance" = some (.builtin "isinstance")) (hmt : X.mg x = none) (hvt : bootBuiltins x = some (.type t)) (hmt' : X.mg x' = none) (hvt' : bootBuiltins x' = some (.type t')) (he : XE X T W e fa)
    (ht : t ∈ ["int", "str", "bool", "list", "tuple"]) (ht' : t' ∈ ["int", "str", "bool", "list", "tuple"]) (hg : L2.Gl X "isinstance" := by rfl) (hgt : L2.Gl X x := by rfl) (hgt' : L2.Gl X x' := by rfl)
    (hn : x ≠ "__name__" := by decide) (hd : (x == ("__debug__" : Str)) = false := by decide) (hn' : x' ≠ "__name__" := by decide) (hd' : (x' == ("__debug__" : Str)) = false := by decide)
    (h1 : starEach [e, .Tuple [.Name x p2, .Name x' p3] kt p4] X.env = (false, eval e X.env) :: starEach [.Tuple [.Name x p2, .Name x' p3] kt p4] X.env := by rfl) (h2 : starEach [.Tuple [.Name x p2, .Name x' p3] kt p4] X.env = (false, eval (.Tuple [.Name x p2, .Name x' p3] kt p4) X.env) :: starEach [] X.env := by rfl)
    (hpl : (backTo pos (starEach [.Tuple [.Name x p2, .Name x' p3] kt p4] X.env)).any (·.1) = false := by rfl)
    (h3 : starEach [.Name x p2, .Name x' p3] X.env = (false, eval (.Name x p2) X.env) :: starEach [.Name x' p3] X.env := by rfl) (h4 : starEach [.Name x' p3] X.env = (false, eval (.Name x' p3) X.env) :: starEach [] X.env := by rfl) :
    XE X T W (.Call (.Name "isinstance" p) [e, .Tuple [.Name x p2, .Name x' p3] kt p4] [] pos) (isiE [t, t'] fa) :=
  (pe_callB call_isiT hg hm hv (pa_cons he (pa_cons (pe_tup (pa_cons (pe_bltn (v := .ty t) hgt hmt hvt rfl hn hd) (pa_cons (pe_bltn (v := .ty t') hgt' hmt' hvt' rfl hn' hd') pa_nil h4) h3)) pa_nil h2) h1) (by decide) (by decide) h1 hpl).impQ fun σ H Q h => by
    obtain ⟨β, G, S, ρ, o, p⟩ := h
    refine ⟨β, G, S, ρ, o, Post.thn (Rl := RpV X.K T σ) p fun S1 H1 ρ1 v u e1 o1 h1 p1 => ?_⟩
    split at p1
    · rename_i d q
      split at p1
      · rename_i hno
        refine ⟨by show 2 ≤ sizeLine; rw [sizeLine_eq]; decide, fun a ha => ⟨u, a, [.ty t, .ty t'], .type (tyName d), [.type t, .type t'], [t, t'].any (isiB d), rfl, upd_same, .cons (.ty t) (.cons (.ty t') .nil), ?_, ?_, ?_⟩⟩
        · have e3 := Ext.skip (o := .tup [.ty t, .ty t']) o1.sh ha
          have h3 : RpH X.K T S1 (upd H1 a (.tup [.ty t, .ty t'])) d u := by
            rcases o1.res h1 q with z | ⟨b, vs, xs, z1, z2, z3, z4⟩
            · exact .inl z
            · exact .inr ⟨b, vs, xs, z1, z2, same_new ha _ _ z3, z4⟩
          exact h3.ty e3.sh hno
        · refine kitAny_cons (kit_ty (kb_all _ (ty_mem hno) t ht)) (fun hb => kitAny_cons (kit_ty (kb_all _ (ty_mem hno) t' ht')) (fun hb' => kitAny_nil.trans ?_) fun hb' => ?_) fun hb => ?_
          · simp only [isiB, List.any_cons, List.any_nil, Bool.or_false]; rw [hb, hb']; rfl
          · simp only [isiB, List.any_cons, List.any_nil, Bool.or_false]; rw [hb', Bool.or_true]
          · simp only [isiB, List.any_cons, List.any_nil, Bool.or_false]; rw [hb, Bool.true_or]
        · exact p1 S1 _ _ (Same.refl _) (o1.ext (Ext.skip o1.sh ha)) rfl
      · exact p1.elim
    · exact p1.elim
/-! ### keywords alone: f(k = v, ..), in the order of the parameters -/
def XK (X : Cx) (T : Tb) (W : WX) (kws : List Keyword) (f : Rho → R (List VD)) : Prop := PK X kws (rA X.K T W f)
theorem _root_.L2.PK.impQ {X : Cx} {e : List Keyword} {t t' : TA} (h : PK X e t) (i : ∀ σ H Q, t' σ H Q → t σ H Q) : PK X e t' := ⟨fun pos pins s σ H Q I w => h.run pos pins s σ H Q I (i σ H Q w)⟩
theorem xk_nil : XK X T W [] nilA := pk_nil.impQ fun σ H Q h => by
  obtain ⟨β, G, S, ρ, o, p⟩ := h
  exact p S H [] (Same.refl _) o rfl
/-- how keywords alone bind -/
def KwB (K : PySem.W.Frag) (fd : FuncData) (ps : List Str) : Prop := ∀ (s : Shared) (ws : List Value), K.In s.heap → ws.length = ps.length → BindsTo s fd ⟨[], ps.zip ws⟩ (ps.zip ws)
theorem kwB_of {K : PySem.W.Frag} {x qual : Str} {st : Stmt} {f : Addr} {fd : FuncData} {ps : List Str} (F : Fun K x qual st f fd)
    (h : ∀ (kV doc pm : Value) (an : Option Addr) (cdv ct : Value) (ws : List Value), ws.length = ps.length → bindArgs (PySem.W.fnOf x qual (defArgs st) (defBody st) (defScope st) .none kV doc pm an cdv ct) ⟨[], ps.zip ws⟩ = pure (ps.zip ws)) : KwB K fd ps := by
  obtain ⟨oc, od, kV, doc, pm, an, cdv, ct, osl, rfl, lk, hcd⟩ := F.ex
  exact fun s ws _ hl => .of_eq (h kV doc pm an cdv ct ws hl)
theorem pe_kw0 {CX : CXT} {k : Nat} {f : Addr} {fd : FuncData} {ps : List Str} {sp : Sp} {E : L2.St → L2.XK} {x : Str} {p : Pos} {kws : List Keyword} {tk : TA} (Fk : FnOk X.prog X.w X.K X.mg X.base CX k f fd ps sp) (hr : Room k X.A) (hg : L2.Gl X x) (hm : X.mg x = some (.ref f)) (hk : PySem.W.keepIn X.K (.ref f) = true) (hb : KwB X.K fd ps) (hx : ∀ σ, PassesAt CX X σ (E σ))
    (hkw : PK X kws tk) (hall : (backToKw pos (keywordEach kws X.env)).all (·.1.isSome) = true := by rfl) (hks : (backToKw pos (keywordEach kws X.env)).filterMap (·.1) = ps := by rfl)
    (hdb : (x == ("__debug__" : Str)) = false := by decide) (hpl : ((backTo pos (starEach [] X.env)).any (·.1) || (backToKw pos (keywordEach kws X.env)).any (·.1.isNone)) = false := by rfl) :
    PE X (.Call (.Name x p) [] kws pos) (tCallS sp E tk) := by
  refine ⟨fun pins s σ H Q I h => wpAny_Call_Name_kw (ld_glob I hg hm ?_ hdb)⟩
  refine PySem.W.callWith_KW0 (h₀ := X.base) I.ok.mod.kin hk hall (thn (hkw.run pos pins s σ H _ I h) fun ws s2 ⟨zs, H2, I2, rz, q2⟩ => ⟨I2.kIn, ?_⟩) hpl
  rw [hks]
  have hl : ws.length = ps.length := by rw [← rz.length]; exact Fk.len _ _ _ _ q2
  refine wpAny_call (codeAny_mono (Fk.run X.A X.stack s2 H2 ⟨[], ps.zip ws⟩ ws zs Q (E σ) hr I2.env0 (hb s2 ws I2.kIn hl) rz q2) fun r s' hq => ?_)
  cases r with
  | error e => exact hx σ pins H2 s2 e s' I2 hq
  | ok fl => cases fl with
    | ret u => exact I2.after hq
    | _ => exact hq.elim
theorem xe_callKw {F : List D → Res} {k : Nat} {f : Addr} {fd : FuncData} {ps : List Str} {n : Nat} {x : Str} {p : Pos} {kws : List Keyword} (Fk : FnOk X.prog X.w X.K X.mg X.base (L2.CX X.prog X.w) k f fd ps (spP X.K T n F)) (hr : Room k X.A) (hm : X.mg x = some (.ref f)) (hk : PySem.W.keepIn X.K (.ref f) = true) (hb : KwB X.K fd ps)
    (tk : Takes X W) (hn : ∀ ds, F ds ≠ .bad → ds.length = n) (ha : XK X T W kws fs) (hg : L2.Gl X x := by rfl) (hall : (backToKw pos (keywordEach kws X.env)).all (·.1.isSome) = true := by rfl) (hks : (backToKw pos (keywordEach kws X.env)).filterMap (·.1) = ps := by rfl)
    (hdb : (x == ("__debug__" : Str)) = false := by decide) (hpl : ((backTo pos (starEach [] X.env)).any (·.1) || (backToKw pos (keywordEach kws X.env)).any (·.1.isNone)) = false := by rfl) :
    XE X T W (.Call (.Name x p) [] kws pos) (callE F fs) :=
  (pe_kw0 Fk hr hg hm hk hb (fun σ => passAt tk σ) ha hall hks hdb hpl).impQ fun _ _ _ h => call_of hn h
end
/-! ### defs that hand back a new list; the box made anew -/
def spL (K : PySem.W.Frag) (T : Tb) (n : Nat) (F : List D → Option (List D)) : Sp := fun vs H Q _ => ∃ S ds, SameT T S H ∧ Rps K T S ds vs ∧ ds.length = n ∧ match F ds with
  | some xs => Gf K T S H xs Q
  | none => False
section
variable {X : Cx} {T : Tb} {W : WX} {e e0 : Expr} {es : List Expr} {fa : Rho → R VD} {fs : Rho → R (List VD)} {pos : Pos}
def callL (F : List D → Option (List D)) (fs : Rho → R (List VD)) : Rho → R (List D) := fun ρ => (fs ρ).bind fun vs ρ1 => match datAll vs with
  | some ds => (match F ds with | some xs => .ok xs ρ1 | none => .bad)
  | none => .bad
theorem xf_call {F : List D → Option (List D)} {k : Nat} {f : Addr} {fd : FuncData} {ps : List Str} {n : Nat} {x : Str} {p : Pos} (Fk : FnOk X.prog X.w X.K X.mg X.base (L2.CX X.prog X.w) k f fd ps (spL X.K T n F)) (hr : Room k X.A) (hm : X.mg x = some (.ref f)) (hk : PySem.W.keepIn X.K (.ref f) = true) (hb : Binds X.K fd ps [])
    (tk : Takes X W) (hn : ∀ ds, F ds ≠ none → ds.length = n) (ha : XA X T W (e :: es) fs) (hg : L2.Gl X x := by rfl) (hdb : (x == ("__debug__" : Str)) = false := by decide) (he : starEach (e :: es) X.env = (false, eval e X.env) :: starEach es X.env := by rfl) (hpl : (backTo pos (starEach es X.env)).any (·.1) = false := by rfl) :
    XF X T W (.Call (.Name x p) (e :: es) [] pos) (callL F fs) :=
  (pe_callS Fk hr hg hm hk hb (fun σ => passAt tk σ) ha hdb he hpl).impQ fun σ H Q h => by
    obtain ⟨β, G, S, ρ, o, p⟩ := h
    refine ⟨β, G, S, ρ, o, PostF.thn (Rl := RpVs X.K T σ) p fun S1 H1 ρ1 vs us e1 o1 h1 p1 => ?_⟩
    split at p1
    · rename_i ds q
      refine ⟨S1, ds, o1.sh, datAll_rps q h1, hn ds (fun z => by rw [z] at p1; exact p1), ?_⟩
      revert p1
      cases F ds with
      | none => exact fun p1 => p1
      | some xs => exact fun p1 => p1.gf o1
    · exact p1.elim
theorem Ok.extF {K : PySem.W.Frag} {β : Bt} {G S S' H H' : Hp} {σ : L2.St} {ρ : Rho} {b : Addr} {ns' : List Int} (o : Ok K T β G S σ ρ H) (fr : Fre β G S σ ρ b) {us : List V} (hbl : H b = some (.lst us)) (e : ExtB T b ns' S H S' H') : Ok K T β G S' σ ρ H' where
  sh := e.sh
  gh := e.gh o.gh fr.g
  gs := fun c u q n => e.gs o.gh q n (o.gs c u q n)
  gb := fun c q => by
    obtain ⟨ms, hb, hn⟩ := o.bx c q
    exact ⟨(o.gb c q).1, (e.fr c _ hb hn ((o.gb c q).2))⟩
  bx := fun c q => by
    obtain ⟨ms, hb, hn⟩ := o.bx c q
    exact e.hs (fun z => fr.b (by rw [q, z])) hb hn
  len := o.len
  cel := fun j c q => by
    have h1 := o.cel j c q
    cases c with
    | no => trivial
    | d x => obtain ⟨u, e1, r⟩ := h1; exact ⟨u, e1, Rp.mono e.s _ _ r⟩
    | m xs =>
      obtain ⟨a, vs, e1, e2, e3, e4, e5, r⟩ := h1
      exact ⟨a, vs, e1, e.h _ _ (fun z => fr.sl j xs q (by rw [e1, z])) e2, (e.fr _ _ e2 (fun _ z => nomatch z) e3), e4, e5, Rps.mono e.s _ _ r⟩
    | k l =>
      obtain ⟨a, kvs, e1, e2, e3, e4, e5, ek, r⟩ := h1
      exact ⟨a, kvs, e1, e.h _ _ (fun z => fr.sk j l q (by rw [e1, z])) e2, (e.fr _ _ e2 (fun _ z => nomatch z) e3), e4, e5, ek, Rps.mono e.s _ _ r⟩
    | kt l =>
      obtain ⟨a, kvs, e1, e2, e3, e4, e5, ek, r⟩ := h1
      exact ⟨a, kvs, e1, e.h _ _ (fun z => fr.skt j l q (by rw [e1, z])) e2, (e.fr _ _ e2 (fun _ z => nomatch z) e3), e4, e5, ek, Rps.mono e.s _ _ r⟩
    | b ms =>
      obtain ⟨a, e1, e2, e3⟩ := h1
      exact ⟨a, e1, e2, e.h _ _ (fun z => fr.b (by rw [e2, z])) e3⟩
    | s t =>
      obtain ⟨a, dx, e1, e2, e3, e4, e5, e6, e7, e8⟩ := h1
      exact ⟨a, dx, e1, e2, e.h _ _ (fun z => by rw [z, hbl] at e3; cases e3) e3, e.h _ _ (fun z => by rw [z, hbl] at e4; cases e4) e4, (e.fr _ _ e4 (fun _ z => nomatch z) e5), e6, (e.fr _ _ e3 (fun _ z => nomatch z) e7), e8⟩
  dis := o.dis
/-- f(new list): the list is f's box -/
def callNew (F : List Int → List D → Option (D × List Int)) (f : Rho → R (List D)) : Rho → R VD := fun ρ => (f ρ).bind fun ds ρ1 => match allOf D.int? ds with
  | some ns => (match F ns [] with | some (d, _) => .ok (.d d) ρ1 | none => .bad)
  | none => .bad
theorem xe_callNew {F : List Int → List D → Option (D × List Int)} {k : Nat} {f : Addr} {fd : FuncData} {ps : List Str} {x : Str} {p : Pos} {ff : Rho → R (List D)} (Fk : FnOk X.prog X.w X.K X.mg X.base (L2.CX X.prog X.w) k f fd ps (spB X.K T 0 F)) (hr : Room k X.A) (hm : X.mg x = some (.ref f)) (hk : PySem.W.keepIn X.K (.ref f) = true) (hb : Binds X.K fd ps [])
    (tk : Takes X W) (ha : XF X T W e ff) (hg : L2.Gl X x := by rfl) (hdb : (x == ("__debug__" : Str)) = false := by decide) (he : starEach [e] X.env = (false, eval e X.env) :: starEach [] X.env := by rfl) (hpl : (backTo pos (starEach [] X.env)).any (·.1) = false := by rfl) :
    XE X T W (.Call (.Name x p) [e] [] pos) (callNew F ff) :=
  (pe_callS Fk hr hg hm hk hb (fun σ => passAt tk σ) (pa_cons ha pa_nil he) hdb he hpl).impQ fun σ H Q h => by
    obtain ⟨β, G, S, ρ, o, p⟩ := h
    refine ⟨β, G, S, ρ, o, ?_⟩
    unfold callNew at p
    revert p
    cases ff ρ with
    | bad => exact fun p => p
    | err x ρ1 => exact fun p => p
    | ok ds ρ1 =>
      intro p S1 H1 b vs e1 o1 fr hv r
      dsimp only [R.bind] at p
      cases q : allOf D.int? ds with
      | none => rw [q] at p; exact p.elim
      | some ns =>
        rw [q] at p
        have ez := allOf_ints q
        subst ez
        have := r.intsV
        subst this
        refine ⟨S1, b, ns, [], [], rfl, o1.sh, fr.s, hv, rfl, rfl, ?_⟩
        dsimp only at p
        revert p
        cases F ns [] with
        | none => exact fun p => p.elim
        | some dn => exact fun p S2 H2 v x2 rv => p S2 H2 v (e1.trans x2.s) (o1.extF fr hv x2) rv
end
section
variable {P : Program} {w : World} {K : PySem.W.Frag} {mg : Str → Option Value} {base : Heap} {T : Tb}
def runL (a n : Nat) (f : Rho → O) (ds : List D) : Option (List D) := if ds.length = a then (match f (startR n ds) with
  | .rf xs _ => some xs
  | _ => none) else none
theorem runL_len {a n : Nat} {f : Rho → O} (ds : List D) (h : runL a n f ds ≠ none) : ds.length = a := by
  unfold runL at h
  split at h
  · assumption
  · exact (h rfl).elim
theorem fn_new {x qual : Str} {st : Stmt} {f : Addr} {fd : FuncData} {N ps : List Str} {k : Nat} {g : Rho → O} (F : Fun K x qual st f fd) (Sc : FnScope N ps (defScope st))
    (hbody : ∀ (cdv : Value) (A : Around) (outer : List PySem.Env) (s : Shared) (H : Hp) (E : L2.XK), Room k (A.deeper (envOfC qual (defScope st) s.heap.objs.size f cdv)) →
      PassesOwn (model P w) (cxOf (L2.CX P w) P w K mg base N qual (defScope st) f cdv A outer s H E).A (cxOf (L2.CX P w) P w K mg base N qual (defScope st) f cdv A outer s H E).env (cxOf (L2.CX P w) P w K mg base N qual (defScope st) f cdv A outer s H E).xe →
      XB (cxOf (L2.CX P w) P w K mg base N qual (defScope st) f cdv A outer s H E) T W0 (defBody st) g) :
    FnOk P w K mg base (L2.CX P w) (k + 1) f fd ps (spL K T ps.length (runL ps.length N.length g)) := by
  refine F.okX Sc (fun vs H Q E h => ?_) (fun cdv A outer s H vs Q E hr h => ?_)
  · obtain ⟨S, ds, e, r, hl, _⟩ := h
    rw [r.len, hl]
  · obtain ⟨S, ds, e, r, hl, p⟩ := h
    refine ⟨_, hbody cdv A outer s H E hr (passes_of rfl), .no, besides S H, S, startR N.length ds, ?_, ?_⟩
    · refine ⟨e, besides_same, fun b o q _ => besides_apart q, fun b q => (nomatch q), fun b q => (nomatch q), ?_, fun i c q => start_cell r q, fun i j xs ys q => (start_noM q).elim⟩
      unfold L2.start startR
      rw [List.length_append, List.length_append, List.length_map, List.length_map, List.length_replicate, List.length_replicate, r.len]
    · unfold runL at p
      rw [if_pos hl] at p
      revert p
      cases g (startR N.length ds) with
      | rf ds' ρ' =>
        intro p S' σ' H' a vs' e1 o fr hv r'
        have x1 : Ext T S H S' H' := ext_of e e1 o.sh o.gh o.gs
        refine p S' H' a vs' x1 ?_ fr.s hv r'
        cases z : H a with
        | none => rfl
        | some u =>
          exfalso
          cases y : S a with
          | none => have := fr.g; rw [besides_of z y] at this; cases this
          | some u' => rw [x1.s.free fr.s] at y; cases y
      | nx ρ' => exact fun p => p.elim
      | rt v ρ' => exact fun p => p.elim
      | err x ρ' => exact fun p => p.elim
      | bk ρ' => exact fun p => p.elim
      | ct ρ' => exact fun p => p.elim
      | bad => exact fun p => p.elim
end
end Lq
namespace Lq
open PySem PySem.Spec PyProof.Rows L2
/-- x[k] = e, x a slot's own list or the box -/
def isMB : Option Cell → Bool
  | some (.m _) => true
  | some (.b _) => true
  | _ => false
def putS1 (i : Nat) (v kk : VD) (ρ : Rho) : O := match ρ[i]?, v, kk with
  | some (.m xs), .d y, .d (.int k) => (match ixN xs.length k with | some j => .nx (ρ.set i (.m (xs.set j y))) | none => .bad)
  | some (.b ns), .d (.int y), .d (.int k) => if onlyB i ρ then (match ixN ns.length k with | some j => .nx (ρ.set i (.b (ns.set j y))) | none => .bad) else .bad
  | _, _, _ => .bad
def putItem (i : Nat) (fe fk : Rho → R VD) : Rho → O := fun ρ => (fe ρ).thnO fun v ρ1 => if isMB ρ1[i]? then ((fk ρ1).thnO fun kk ρ2 => putS1 i v kk ρ2) else .bad
section
variable {X : Cx} {T : Tb} {W : WX} {e k : Expr} {fe fk : Rho → R VD} {pos px ps : Pos} {x : Str}
theorem xs_item (i : Nat) (he : XE X T W e fe) (hk : XE X T W k fk) (hN : X.N[i]? = some x := by rfl) (hv : Vis X.env.scope x := by first | exact Or.inl rfl | exact Or.inr (Or.inl rfl) | exact Or.inr (Or.inr rfl)) (hd : (x == ("__debug__" : Str)) = false := by decide) (hcd : (x == ("__classdict__" : Str)) = false := by decide)
    (ha : ∀ v, assign (.Subscript (.Name x px) k ps) X.env v = (do
      let ov ← holding [v] (eval (.Name x px) X.env)
      let iv ← holding [v, ov] (eval k X.env)
      standAt ps
      holding [v, ov, iv] (setItem ov iv v)
      release [v, ov, iv] []) := by intro _; rfl)
    (hs : swapsWithSole [.Subscript (.Name x px) k ps] e pos.line X.env = pure false := by rfl) (hw : swappedStores [.Subscript (.Name x px) k ps] e X.env = pure none := by rfl)
    (h1 : (assignEach [.Subscript (.Name x px) k ps] X.env).map (·.2) = [assign (.Subscript (.Name x px) k ps) X.env] := by rfl) : XS X T W (.Assign [.Subscript (.Name x px) k ps] e pos) (putItem i fe fk) :=
  (ps_asg he (pg_sub (pe_var hN hv hd hcd) hk set_list ha) hs hw h1).impQ fun De σ H q => by
    obtain ⟨β, G, S, ρ, o, p⟩ := q
    refine ⟨β, G, S, ρ, o, PostS.thn (Rl := RpV X.K T σ) p fun S1 H1 ρ1 v u e1 o1 h1 p1 => ?_⟩
    have hslot : isMB ρ1[i]? = true → ∃ a, σ[i]? = some (some (.ref a)) := fun hm => by
      cases q1 : ρ1[i]? with
      | none => rw [q1] at hm; cases hm
      | some c =>
        rw [q1] at hm
        cases c with
        | m xs => obtain ⟨a, _, ea, _⟩ := o1.cel i _ q1; exact ⟨a, ea⟩
        | b ns => obtain ⟨a, ea, _⟩ := o1.cel i _ q1; exact ⟨a, ea⟩
        | no => cases hm
        | d _ => cases hm
        | s _ => cases hm
        | k _ => cases hm
        | kt _ => cases hm
    by_cases hm : isMB ρ1[i]? = true
    · rw [if_pos hm] at p1
      obtain ⟨a, ea⟩ := hslot hm
      refine ⟨.ref a, ea, β, G, S1, ρ1, o1, PostS.thn (Rl := RpV X.K T σ) p1 fun S2 H2 ρ2 kk u2 e2 o2 h2 p2 => ?_⟩
      unfold putS1 at p2
      split at p2
      · rename_i xs y kz q2
        split at p2
        · rename_i j hj
          obtain ⟨b, ws, f1, f2, f3, f4, f5, r⟩ := o2.cel i _ q2
          rw [ea] at f1; cases f1
          refine ⟨a, ws, kz, j, rfl, h2, f2, by rw [r.len]; exact hj, ?_⟩
          exact p2 S2 σ _ (Same.refl _) (o2.updM q2 ea (r.set j (Rp.mono e2 _ _ h1)))
        · exact p2.elim
      · rename_i ns y kz q2
        split at p2
        · rename_i hob
          split at p2
          · rename_i j hj
            obtain ⟨b, f1, f2, f3⟩ := o2.cel i _ q2
            rw [ea] at f1; cases f1
            subst f2
            refine ⟨a, ns.map V.int, kz, j, rfl, h2, f3, by rw [List.length_map]; exact hj, ?_⟩
            have hu : u = .int y := h1
            subst hu
            have es : (ns.map V.int).set j (.int y) = (ns.set j y).map V.int := by rw [List.map_set]
            rw [es]
            refine p2 S2 σ _ (Same.refl _) (o2.extB ⟨Same.refl _, fun c o' hc q _ => by rw [upd_ne hc]; exact q, fun c ps hc q => ⟨ps, by rw [upd_ne hc]; exact q⟩, upd_same, o2.sh.step (Keep.upd f3) fun c o' q => ?_, fun c o' q _ z => z⟩ q2 hob)
            have hc : c ≠ a := fun z => by subst z; rw [(o2.gb c rfl).2] at q; cases q
            exact .inr ⟨q, upd_ne hc⟩
          · exact p2.elim
        · exact p2.elim
      · exact p2.elim
    · rw [if_neg hm] at p1; exact p1.elim
end
/-- a constant of the module: a tuple of texts -/
theorem rp_kstrs {K : PySem.W.Frag} {T : Tb} {a : Addr} {o : Obj} {its : Array Value} {n : Nat} {ss : List Str} (hk : K.lookup a = some o) (hc : o.cls = .type "tuple") (hd : o.data = .seq its n) (hz : its.size ≤ sizeLine) (hv : Vals (ss.map V.str) its.toList) (S : Hp) : Rp K T S (.tup (ss.map D.str)) (.ref a) :=
  ⟨a, ss.map V.str, rfl, .inr ⟨o, its, n, hk, hc, hd, hz, hv⟩, Rps.strs ss⟩
end Lq
namespace Lq
open PySem PySem.Spec PyProof.Rows L2
/-! ### sorted of a list or a tuple, by what the library says of gathering -/
/-! ### sorted lists of data -/
def insS (x : Str) : List Str → List Str
  | [] => [x]
  | y :: r => if decide (y.cps.toList < x.cps.toList) then y :: insS x r else x :: y :: r
def sortStrs : List Str → List Str
  | [] => []
  | x :: r => insS x (sortStrs r)
def insI (x : Int) : List Int → List Int
  | [] => [x]
  | y :: r => if decide (y < x) then y :: insI x r else x :: y :: r
def sortInts : List Int → List Int
  | [] => []
  | x :: r => insI x (sortInts r)
end Lq
namespace Lq
open PySem PySem.Spec PyProof.Rows L2
/-- ints, or texts -/
def sortDs (xs : List D) : Option (List D) := match allOf D.int? xs with
  | some ns => some ((sortInts ns).map D.int)
  | none => (match allOf D.str? xs with
    | some ss => some ((sortStrs ss).map D.str)
    | none => none)
def sortedF : List D → Option (List D)
  | [x] => (match x.items? with | some xs => sortDs xs | none => none)
  | _ => none
/-! ### t[::-1] -/
section
variable {X : Cx} {T : Tb} {W : WX} {e : Expr} {es : List Expr} {fa : Rho → R VD} {fs : Rho → R (List VD)} {pos : Pos}
def revD : D → Option D
  | .lst xs => some (.lst xs.reverse)
  | .tup xs => some (.tup xs.reverse)
  | _ => none
/-! ### f() -/
theorem xe_call0 {F : List D → Res} {k : Nat} {f : Addr} {fd : FuncData} {x : Str} {p : Pos} (Fk : FnOk X.prog X.w X.K X.mg X.base (L2.CX X.prog X.w) k f fd [] (spP X.K T 0 F)) (hr : Room k X.A) (hm : X.mg x = some (.ref f)) (hk : PySem.W.keepIn X.K (.ref f) = true) (hb : KwB X.K fd [])
    (tk : Takes X W) (hn : ∀ ds, F ds ≠ .bad → ds.length = 0) (hg : L2.Gl X x := by rfl) (hdb : (x == ("__debug__" : Str)) = false := by decide) :
    XE X T W (.Call (.Name x p) [] [] pos) (callE F nilA) := xe_callKw Fk hr hm hk hb tk hn xk_nil hg rfl rfl hdb rfl
/-! ### a or b, a new list of either -/
def orF (f g : Rho → R (List D)) : Rho → R (List D) := fun ρ => (f ρ).bind fun ds ρ1 => if ds.isEmpty then g ρ1 else .ok ds ρ1
theorem xf_or {a b : Expr} {f g : Rho → R (List D)} (ha : XF X T W a f) (hb : XF X T W b g) : XF X T W (.BoolOp .Or [a, b] pos) (orF f g) := (pe_orT ha (pe_one hb)).impQ fun σ H Q h => by
  obtain ⟨β, G, S, ρ, o, p⟩ := h
  refine ⟨β, G, S, ρ, o, ?_⟩
  unfold orF at p
  revert p
  cases f ρ with
  | bad => exact fun p => p
  | err x ρ1 => exact fun p => p
  | ok ds ρ1 =>
    intro p S1 H1 a1 vs e1 o1 fr hv r
    dsimp only [R.bind] at p
    refine ⟨!vs.isEmpty, .inl ⟨vs, SqL.of hv, rfl⟩, ?_⟩
    have hl := r.len
    cases ds with
    | nil =>
      have : vs = [] := List.length_eq_zero_iff.mp hl
      subst this
      exact iteF ⟨β, G, S1, ρ1, o1, PostF.mono p e1⟩
    | cons d dr =>
      cases vs with
      | nil => cases hl
      | cons v vr => exact iteT (p S1 H1 a1 _ e1 o1 fr hv r)
end
theorem cx_no {P : Program} {w : World} {l : List PySem.Env} {H : Hp} {s s' : Shared} {e : Value} (h : L2.CX P w l H s (fun _ _ _ => False) e s') : False := by
  obtain ⟨_, _, _, _, _, _, _, _, _, _, _, _, z⟩ := h
  exact z
end Lq
namespace Lq
open PySem
/-! ### plain laws of the mirrors -/
theorem comp_all {vs : List Nat} {gd : D → Rho → Option Rho} {ft : Rho → R Bool} {fe : Rho → R VD} {g : D → List D} {ρ : Rho} : ∀ (ds acc : List D),
    (∀ d ∈ ds, (g d).length ≤ 1 ∧ ∀ acc' : List D, acc'.length + 1 ≤ 1000000 → ∃ ρ1, compTurn gd ft fe acc' d ρ = .ok (acc' ++ g d) ρ1 ∧ wipeR ρ1 vs = ρ) → acc.length + ds.length ≤ 1000000 →
    compLoop vs gd ft fe acc ds ρ = .ok (acc ++ ds.flatMap g) ρ
  | [], acc, _, _ => by simp [compLoop]
  | d :: ds, acc, h, hl => by
    obtain ⟨h1, h2⟩ := h d List.mem_cons_self
    rw [List.length_cons] at hl
    obtain ⟨ρ1, e1, e2⟩ := h2 acc (by omega)
    rw [compLoop, e1]
    dsimp only
    rw [e2, comp_all ds _ (fun z hz => h z (List.mem_cons_of_mem _ hz)) (by rw [List.length_append]; omega), List.flatMap_cons, List.append_assoc]
theorem flatMap_one {α β : Type} (f : α → β) (l : List α) : (l.flatMap fun x => [f x]) = l.map f := by
  induction l with
  | nil => rfl
  | cons x r ih => rw [List.flatMap_cons, ih]; rfl
theorem allOf_map_str (l : List Str) : allOf D.str? (l.map D.str) = some l := by
  induction l with
  | nil => rfl
  | cons x r ih => rw [List.map_cons, allOf]; simp [D.str?, ih]
theorem allOf_map_bl (l : List Bool) : allOf D.bl? (l.map D.bl) = some l := by
  induction l with
  | nil => rfl
  | cons x r ih => rw [List.map_cons, allOf]; simp [D.bl?, ih]
def isT : Res → Bool
  | .ok (.bl true) => true
  | _ => false
theorem isT_of {r : Res} (h : isT r = true) : r = .ok (.bl true) := by
  unfold isT at h
  split at h
  · rfl
  · cases h
/-- the box of draws: k draws at most were made -/
structure Bx (k : Nat) (ns : List Int) : Prop where
  at_ : ∃ b0 b1 b2, ns = [b0, b1, b2] ∧ 0 ≤ b0 ∧ 0 ≤ b1 ∧ b1 < 4611686018427387904 ∧ 0 ≤ b2 ∧ b2 ≤ k
theorem Bx.mono {j k : Nat} {ns : List Int} (h : Bx j ns) (e : j ≤ k) : Bx k ns := by
  obtain ⟨b0, b1, b2, h1, h2, h3, h4, h5, h6⟩ := h
  exact ⟨b0, b1, b2, h1, h2, h3, h4, h5, by omega⟩
theorem big_of {i : Int} (h1 : -18446744073709551616 < i) (h2 : i < 18446744073709551616) : big i = true := by
  unfold big
  exact Nat.ble_eq_true_of_le (by omega)
def drawn (b1 b2 n : Int) : Int :=
  ((((((b1 + 48271 * (b2 + 1)) * (39373 + (b2 + 1))) % 2147483647 + (b2 + 1) + b1 / 1000003) * (((b1 + 48271 * (b2 + 1)) * (39373 + (b2 + 1))) % 2147483647 % 40009 + 7)) % 2147483629 * 48271 + ((b1 + 48271 * (b2 + 1)) * (39373 + (b2 + 1))) % 2147483647) % 2147483587 / 64) % n
theorem cutL_to {α : Type} (xs : List α) (n : Nat) : cutL xs none (some (n : Int)) = xs.take n := by
  unfold cutL
  rw [HT.sIx_none, HT.sIx_nat, List.drop_zero, Nat.sub_zero, ← List.take_eq_take_min]
theorem cutL_ft {α : Type} (xs : List α) (m n : Nat) : cutL xs (some (m : Int)) (some (n : Int)) = (xs.take n).drop m := by
  unfold cutL
  rw [HT.sIx_nat, HT.sIx_nat, List.drop_take]
  by_cases h : m ≤ xs.length
  · rw [Nat.min_eq_left h]
    by_cases h2 : n ≤ xs.length
    · rw [Nat.min_eq_left h2]
    · rw [Nat.min_eq_right (by omega), List.take_of_length_le (by rw [List.length_drop]; omega), List.take_of_length_le (by rw [List.length_drop]; omega)]
  · rw [Nat.min_eq_right (by omega : xs.length ≤ m), List.drop_eq_nil_of_le (Nat.le_refl _), List.drop_eq_nil_of_le (by omega : xs.length ≤ m), List.take_nil, List.take_nil]
theorem rng_mem {n : Nat} {d : D} (h : d ∈ rng 0 n) : ∃ k : Nat, k < n ∧ d = .int k := by
  unfold rng at h
  simp at h
  obtain ⟨k, h1, h2⟩ := h
  exact ⟨k, h1, by rw [← h2]⟩
theorem fits_of {n : Nat} (h : n ≤ 1000000) : fits n = true := by
  unfold fits
  exact decide_eq_true (by omega)
theorem rng_true (n : Nat) (y : D) : ((rng 0 n).map fun _ => y) = List.replicate n y := by
  unfold rng
  rw [List.map_map]
  exact List.ext_getElem (by simp) fun i h1 h2 => by simp
theorem all_true (n : Nat) : allD [.lst (List.replicate n (D.bl true))] = some (.bl true) := by
  have e : List.replicate n (D.bl true) = (List.replicate n true).map D.bl := by rw [List.map_replicate]
  rw [e, allD, allOf_map_bl]
  simp
theorem comp_inv {vs : List Nat} {gd : D → Rho → Option Rho} {ft : Rho → R Bool} {fe : Rho → R VD} (I : Nat → Rho → Prop) (y : D) (N : Nat) : ∀ (ds acc : List D) (k : Nat) (ρ : Rho), I k ρ →
    (∀ d ∈ ds, ∀ k ρ, ∀ acc' : List D, I k ρ → k < N → fits (acc'.length + 1) = true → ∃ ρ1, compTurn gd ft fe acc' d ρ = .ok (acc' ++ [y]) ρ1 ∧ I (k + 1) (wipeR ρ1 vs)) → acc.length + ds.length ≤ 1000000 → k + ds.length ≤ N →
    ∃ ρ', compLoop vs gd ft fe acc ds ρ = .ok (acc ++ ds.map fun _ => y) ρ' ∧ I (k + ds.length) ρ'
  | [], acc, k, ρ, hi, _, _, _ => ⟨ρ, by simp [compLoop], hi⟩
  | d :: ds, acc, k, ρ, hi, h, hl, hn => by
    rw [List.length_cons] at hl hn
    obtain ⟨ρ1, e1, e2⟩ := h d List.mem_cons_self k ρ acc hi (by omega) (fits_of (by omega))
    obtain ⟨ρ2, e3, e4⟩ := comp_inv I y N ds (acc ++ [y]) (k + 1) _ e2 (fun z hz => h z (List.mem_cons_of_mem _ hz)) (by rw [List.length_append, List.length_singleton]; omega) (by omega)
    refine ⟨ρ2, ?_, by rw [List.length_cons, show k + (ds.length + 1) = k + 1 + ds.length by omega]; exact e4⟩
    rw [compLoop, e1]
    dsimp only
    rw [e3, List.map_cons, List.append_assoc]
    rfl
theorem okR_small {i : Int} (h1 : -1000000000000 ≤ i) (h2 : i ≤ 1000000000000) : okR i = true := by
  unfold okR
  exact Nat.ble_eq_true_of_le (by omega)
theorem loop_inv {body : D → Rho → O} (I : Nat → Rho → Prop) : ∀ (ds : List D) (k : Nat) (ρ : Rho), I k ρ → (∀ (j : Nat) (d : D) (ρ : Rho), ds[j]? = some d → I (k + j) ρ → ∃ ρ1, body d ρ = .nx ρ1 ∧ I (k + j + 1) ρ1) →
    ∃ ρ', loopS body ds ρ = .nx ρ' ∧ I (k + ds.length) ρ'
  | [], k, ρ, hi, _ => ⟨ρ, rfl, hi⟩
  | d :: ds, k, ρ, hi, h => by
    obtain ⟨ρ1, e1, h1⟩ := h 0 d ρ rfl hi
    obtain ⟨ρ2, e2, h2⟩ := loop_inv I ds (k + 1) ρ1 h1 (fun j d' ρ' hj hi' => by
      obtain ⟨ρ3, e3, h3⟩ := h (j + 1) d' ρ' hj (by rw [show k + (j + 1) = k + 1 + j by omega]; exact hi')
      exact ⟨ρ3, e3, by rw [show k + 1 + j + 1 = k + (j + 1) + 1 by omega]; exact h3⟩)
    refine ⟨ρ2, ?_, by rw [List.length_cons, show k + (ds.length + 1) = k + 1 + ds.length by omega]; exact h2⟩
    rw [loopS, e1]
    exact e2
theorem rng_len (lo : Int) (n : Nat) : (rng lo n).length = n := by unfold rng; rw [List.length_map, List.length_range]
theorem rng_at {lo : Int} {n j : Nat} {d : D} (h : (rng lo n)[j]? = some d) : j < n ∧ d = .int (lo + j) := by
  have hj : j < n := by
    have := (List.getElem?_eq_some_iff.1 h).1
    rw [rng_len] at this
    exact this
  refine ⟨hj, ?_⟩
  unfold rng at h
  rw [List.getElem?_map, List.getElem?_range hj] at h
  exact (Option.some.inj h).symm
end Lq
namespace Lq
open PySem
/-! ### whole comprehensions, equal data -/
theorem compF_map {vs : List Nat} {fi : Rho → R (List D)} {gd : D → Rho → Option Rho} {fe : Rho → R VD} {ρ : Rho} {ds : List D} (g : D → D) (hi : fi ρ = .ok ds ρ) (hw : wipeR ρ vs = ρ) (hb : backR ρ ρ vs = ρ) (hp : (vs.all fun v => plainC (ρ.getD v .no)) = true)
    (hl : ds.length ≤ 1000000) (h : ∀ d ∈ ds, ∃ ρ1 ρ2, gd d ρ = some ρ1 ∧ fe ρ1 = .ok (.d (g d)) ρ2 ∧ wipeR ρ2 vs = ρ) : compF vs fi gd yesT fe ρ = .ok (ds.map g) ρ := by
  have e := comp_all (vs := vs) (gd := gd) (ft := yesT) (fe := fe) (g := fun d => [g d]) (ρ := ρ) ds [] (fun d hd => ⟨by simp, fun acc ha => by
    obtain ⟨ρ1, ρ2, e1, e2, e3⟩ := h d hd
    refine ⟨ρ2, ?_, e3⟩
    simp only [Lq.compTurn, e1, yesT, R.bind, e2, if_true, fits_of ha]⟩) (by rw [List.length_nil]; omega)
  rw [List.nil_append, flatMap_one] at e
  simp only [Lq.compF, hi, R.bind, hp, hw, e, hb, if_true]
theorem compF_inv {vs : List Nat} {fi : Rho → R (List D)} {gd : D → Rho → Option Rho} {fe : Rho → R VD} {ρ : Rho} {ds : List D} (I : Nat → Rho → Prop) (y : D) (N : Nat) (hi : fi ρ = .ok ds ρ) (hw : wipeR ρ vs = ρ) (hb : ∀ k ρ', I k ρ' → backR ρ ρ' vs = ρ') (hp : (vs.all fun v => plainC (ρ.getD v .no)) = true)
    (hl : ds.length ≤ 1000000) (hN : ds.length ≤ N) (h0 : I 0 ρ) (h : ∀ d ∈ ds, ∀ k ρ, I k ρ → k < N → ∃ ρ1 ρ2, gd d ρ = some ρ1 ∧ fe ρ1 = .ok (.d y) ρ2 ∧ I (k + 1) (wipeR ρ2 vs)) : ∃ ρ', compF vs fi gd yesT fe ρ = .ok (ds.map fun _ => y) ρ' ∧ I ds.length ρ' := by
  obtain ⟨ρ', e, hI⟩ := comp_inv (vs := vs) (gd := gd) (ft := yesT) (fe := fe) I y N ds [] 0 ρ h0 (fun d hd k ρ acc hi hk hf => by
    obtain ⟨ρ1, ρ2, e1, e2, e3⟩ := h d hd k ρ hi hk
    refine ⟨ρ2, ?_, e3⟩
    simp only [Lq.compTurn, e1, yesT, R.bind, e2, if_true, hf]) (by rw [List.length_nil]; omega) (by omega)
  rw [Nat.zero_add] at hI
  refine ⟨ρ', ?_, hI⟩
  rw [List.nil_append] at e
  simp only [Lq.compF, hi, R.bind, hp, hw, e, hb _ _ hI, if_true]
/-- data of at most n levels, no list too long -/
def good : Nat → D → Bool
  | 0, _ => false
  | n + 1, .lst xs => decide (xs.length ≤ 1000000) && xs.all (good n)
  | n + 1, .tup xs => decide (xs.length ≤ 1000000) && xs.all (good n)
  | _ + 1, .non => true
  | _ + 1, .bl _ => true
  | _ + 1, .int _ => true
  | _ + 1, .str _ => true
  | _ + 1, _ => false
/-- the same, its texts of plain signs -/
def fine : Nat → D → Bool
  | 0, _ => false
  | n + 1, .lst xs => xs.all (fine n)
  | n + 1, .tup xs => xs.all (fine n)
  | _ + 1, .non => true
  | _ + 1, .bl _ => true
  | _ + 1, .int _ => true
  | _ + 1, .str s => PyData.strOk s
  | _ + 1, _ => false
theorem fines_plain {n : Nat} (h : ∀ d, fine n d = true → plainD d = true ∧ (toPy d).depth ≤ n ∧ ((toPy d).canLay0 = true)) : ∀ ys : List D, (∀ x ∈ ys, fine n x = true) → plainDs ys = true ∧ PyData.depthAll (toPys ys) ≤ n ∧ PyData.canLayAll0 (toPys ys) = true
  | [], _ => ⟨rfl, by simp [toPys, PyData.depthAll], by simp [toPys, PyData.canLayAll0]⟩
  | y :: r, q => by
    obtain ⟨a1, a2, a3⟩ := h y (q y List.mem_cons_self)
    obtain ⟨b1, b2, b3⟩ := fines_plain h r fun x hx => q x (List.mem_cons_of_mem _ hx)
    exact ⟨by simp [plainDs, a1, b1], by simp [toPys, PyData.depthAll]; omega, by simp [toPys, PyData.canLayAll0, a3, b3]⟩
theorem fine_plain : ∀ (n : Nat) (d : D), fine n d = true → plainD d = true ∧ (toPy d).depth ≤ n ∧ ((toPy d).canLay0 = true)
  | 0, _, h => by cases h
  | n + 1, d, h => by
    cases d with
    | non => exact ⟨rfl, by simp [toPy, PyData.depth], by simp [toPy, PyData.canLay0]⟩
    | bl _ => exact ⟨rfl, by simp [toPy, PyData.depth], by simp [toPy, PyData.canLay0]⟩
    | int _ => exact ⟨rfl, by simp [toPy, PyData.depth], by simp [toPy, PyData.canLay0]⟩
    | str s =>
      have hs : PyData.strOk s = true := h
      exact ⟨rfl, by simp [toPy, PyData.depth], by simp [toPy, PyData.canLay0, hs]⟩
    | obj _ _ => cases h
    | scr _ => cases h
    | lst xs =>
      obtain ⟨a1, a2, a3⟩ := fines_plain (fine_plain n) xs (List.all_eq_true.1 (by unfold fine at h; exact h))
      exact ⟨by simp [plainD, a1], by simp [toPy, PyData.depth]; omega, by simp [toPy, PyData.canLay0, a3]⟩
    | tup xs =>
      obtain ⟨a1, a2, a3⟩ := fines_plain (fine_plain n) xs (List.all_eq_true.1 (by unfold fine at h; exact h))
      exact ⟨by simp [plainD, a1], by simp [toPy, PyData.depth]; omega, by simp [toPy, PyData.canLay0, a3]⟩
theorem fine_okQ {n : Nat} {d : D} (h : fine n d = true) (hn : n ≤ 64) : okQ d = true := by
  obtain ⟨a1, a2, a3⟩ := fine_plain n d h
  unfold okQ SeqAt.shaped
  rw [a1, a3, decide_eq_true (by omega : (toPy d).depth ≤ 64)]
  rfl
theorem good_lst {n : Nat} {xs : List D} (h : xs.length ≤ 1000000) (hx : ∀ x ∈ xs, good n x = true) : good (n + 1) (.lst xs) = true := by
  unfold good
  rw [decide_eq_true h, List.all_eq_true.2 hx]
  rfl
theorem good_tup {n : Nat} {xs : List D} (h : xs.length ≤ 1000000) (hx : ∀ x ∈ xs, good n x = true) : good (n + 1) (.tup xs) = true := by
  unfold good
  rw [decide_eq_true h, List.all_eq_true.2 hx]
  rfl
theorem zip_self {xs : List D} {d : D} (h : d ∈ zipD xs xs) : ∃ x ∈ xs, d = .tup [x, x] := by
  obtain ⟨i, hi, e⟩ := List.getElem_of_mem h
  obtain ⟨x, y, e1, e2, e3⟩ := zip_get (List.getElem?_eq_some_iff.2 ⟨hi, e⟩)
  rw [e1] at e2; cases e2
  exact ⟨x, List.mem_of_getElem? e1, e3⟩
theorem zip_self_len (xs : List D) : (zipD xs xs).length = xs.length := by
  unfold zipD
  rw [List.length_map, List.length_zip, Nat.min_self]
theorem map_yes (xs : List D) (y : D) : (xs.map fun _ => y) = List.replicate xs.length y := List.map_const' ..
mutual
/-- the very same data (never said of objects) -/
def eqb : D → D → Bool
  | .non, .non => true
  | .bl a, .bl b => a == b
  | .int i, .int j => i == j
  | .str x, .str y => x == y
  | .lst xs, .lst ys => eqbs xs ys
  | .tup xs, .tup ys => eqbs xs ys
  | _, _ => false
def eqbs : List D → List D → Bool
  | [], [] => true
  | x :: xs, y :: ys => eqb x y && eqbs xs ys
  | _, _ => false
end
mutual
theorem eqb_eq : ∀ x y : D, eqb x y = true → x = y
  | .non, y, h => by cases y <;> first | rfl | cases h
  | .bl a, y, h => by cases y <;> first | (simp [eqb] at h; rw [h]) | cases h
  | .int a, y, h => by cases y <;> first | (simp [eqb] at h; rw [h]) | cases h
  | .str a, y, h => by cases y <;> first | (simp [eqb] at h; rw [h]) | cases h
  | .lst xs, y, h => by
    cases y with
    | lst ys => rw [eqbs_eq xs ys (by rw [← h, eqb])]
    | _ => cases h
  | .tup xs, y, h => by
    cases y with
    | tup ys => rw [eqbs_eq xs ys (by rw [← h, eqb])]
    | _ => cases h
  | .obj _ _, y, h => by cases y <;> cases h
  | .scr _, y, h => by cases y <;> cases h
theorem eqbs_eq : ∀ xs ys : List D, eqbs xs ys = true → xs = ys
  | [], [], _ => rfl
  | [], _ :: _, h => by cases h
  | _ :: _, [], h => by cases h
  | x :: xs, y :: ys, h => by
    rw [eqbs, Bool.and_eq_true] at h
    rw [eqb_eq x y h.1, eqbs_eq xs ys h.2]
end
def resIs : Res → D → Bool
  | .ok x, d => eqb x d
  | _, _ => false
theorem resIs_of {r : Res} {d : D} (h : resIs r d = true) : r = .ok d := by
  unfold resIs at h
  split at h
  · rw [eqb_eq _ _ h]
  · cases h
end Lq
namespace Lq
open PySem
/-! ### joined texts, sorted texts -/
theorem sum_len {c : Nat} : ∀ ws : List Str, (∀ w ∈ ws, w.length ≤ c) → (ws.map (·.length)).sum ≤ ws.length * c
  | [], _ => Nat.zero_le _
  | w :: r, h => by
    have h1 := sum_len r fun x hx => h x (List.mem_cons_of_mem _ hx)
    have h2 := h w List.mem_cons_self
    rw [List.map_cons, List.sum_cons, List.length_cons, Nat.add_mul, Nat.one_mul]
    omega
/-- words that may be joined: not too long, not too many -/
structure Wd (s : Nat) (ws : List Str) : Prop where
  few : ws.length ≤ 1000
  short : ∀ w ∈ ws, w.length ≤ 100
  free : ∀ w ∈ ws, s ∉ TL.tl w
  dash : ∀ w ∈ ws, w ≠ "-"
theorem Wd.room {s : Nat} {ws : List Str} (h : Wd s ws) {sep : Str} (hs : sep.length ≤ 10) : (ws.map (·.length)).sum + ws.length * sep.length ≤ 110000 := by
  have h1 := sum_len ws h.short
  have h2 : ws.length * sep.length ≤ 1000 * 10 := Nat.mul_le_mul h.few hs
  have h3 := h.few
  omega
theorem Wd.split {s : Nat} {ws : List Str} (h : Wd s ws) {sep : Str} {S : List Nat} (hs : sep.length ≤ 10) (ey : TL.tl sep = s :: S) (hk : sep.cps.all (· < 256) = true) (hn : ws ≠ []) : Txt.split (Txt.join sep ws) sep = ws :=
  TL.split_join ey hk hn h.free
theorem Wd.fits {s : Nat} {ws : List Str} (h : Wd s ws) {sep : Str} (hs : sep.length ≤ 10) : Lq.fits (Txt.join sep ws).length = true := by
  have h1 := h.room hs
  have h2 := StrLaws.join_length_le sep ws
  rw [← TL.join_eq] at h2
  exact fits_of (by omega)
def LtS (x y : Str) : Prop := x.cps.toList < y.cps.toList
end Lq
namespace Lq
open PySem PySem.Spec PyProof.Rows L2
/-! ### an error that is caught and kept behind its suite: from the suite on it is an object like others -/
section
variable {X : Cx} {pins : List (Addr × Obj)} {σ : L2.St} {H : Hp} {s : Shared}
theorem exK_ok {P : Program} {w : World} {H : Hp} {h : Heap} {C d a : Addr} {oe : Obj} {vs : Array Value} (e : h.get? a = some oe) (z : Zc (.ref C) (some d) oe) (hd : oe.data = .fields vs) : ObjOk P w H h a (ExK C d a) :=
  ⟨⟨oe, vs, e, z, hd⟩, ⟨oe, e⟩, fun _ _ ⟨o, v, q, r⟩ k => ⟨o, v, k o q, r⟩⟩
/-- an object that no one knew is known from now on -/
theorem inv_know {a : Addr} {o : HO} (I : Inv X pins σ H s) (n0 : X.s_0.heap.get? a = none) (na : H a = none) (nL : a ≠ X.env.locals) (nC : ∀ x c, X.env.cells.lookup x = some c → c ≠ a) (nP : ∀ p ∈ X.pn ++ pins, p.1 ≠ a) (new : ObjOk X.prog X.w (upd H a o) s.heap a o) :
    Inv X pins σ (upd H a o) s where
  ok := I.ok
  os := I.os
  bare := I.bare
  base := {
    keep := I.base.keep
    slot := I.base.slot
    free := fun b u q n hx => (upd_ne (fun z => by rw [z, n0] at q; cases q)).trans (I.base.free b u q n hx)
    there := I.base.there
    tups := fun b xs q => have z := I.base.tups b xs q; (upd_ne (ne_of_none z na)).trans z
    frzs := fun b u xs q => have z := I.base.frzs b u xs q; (upd_ne (ne_of_none z na)).trans z
    tbls := fun b ps q => have ⟨m, z⟩ := I.base.tbls b ps q; ⟨m, (upd_ne (ne_of_none z na)).trans z⟩ }
  loc := I.loc
  cell := I.cell
  free := (upd_ne (Ne.symm nL)).trans I.free
  freeC := fun x c e => (upd_ne (nC x c e)).trans (I.freeC x c e)
  pin := fun p hp => have ⟨h1, h2, h3⟩ := I.pin p hp; ⟨h1, (upd_ne (nP p hp)).trans h2, h3⟩
  hok := I.hok.laidN (fun _ _ q => q) na new
  len := I.len
theorem inv_in (I : Inv X pins σ H s) (a : Addr) : Inv (X.suite a (X.pn ++ pins)) [] σ H s where
  ok := I.ok.suite _ _
  os := I.os
  bare := I.bare
  base := I.base
  loc := I.loc
  cell := I.cell
  free := I.free
  freeC := I.freeC
  pin := fun p hp => I.pin p (by simpa using hp)
  hok := I.hok
  len := I.len
theorem inv_out {a : Addr} {qs : List (Addr × Obj)} (I : Inv (X.suite a (X.pn ++ pins)) qs σ H s) (ok : X.Ok) : Inv X pins σ H s where
  ok := ok
  os := I.os
  bare := I.bare
  base := I.base
  loc := I.loc
  cell := I.cell
  free := I.free
  freeC := I.freeC
  pin := fun p hp => I.pin p (List.mem_append.mpr (Or.inl hp))
  hok := I.hok
  len := I.len
/-- an error a in flight at the frame of X; s0: what stood before it was made -/
structure Down (X : Cx) (pins : List (Addr × Obj)) (σ : L2.St) (H : Hp) (a : Addr) (cls : Value) (d : Option Addr) (B : Heap) (s0 s : Shared) : Prop where
  inv : Inv X pins σ H s0
  gr : ∀ b o, s0.heap.get? b = some o → b ∉ frs X.stack → B.get? b = some o
  up : s0.heap.UpToSlots s.heap
  no : H a = none
  os : s.os = s0.os
  bare : AllBare s.gens
  fly : HandSPX.FlyingZ B X.stack a (Zc cls d) s.heap
variable {a : Addr} {cls : Value} {d : Option Addr} {B : Heap} {s0 : Shared}
theorem Down.here (w : Down X pins σ H a cls d B s0 s) : Inv X pins σ H s := Inv.landed w.inv w.gr w.fly.1 w.up w.os w.bare
theorem Down.obj (w : Down X pins σ H a cls d B s0 s) : ∃ oe vs, s.heap.get? a = some oe ∧ Zc cls d oe ∧ oe.data = .fields vs := HandSPX.FlyingZ.there w.fly
theorem Down.off (w : Down X pins σ H a cls d B s0 s) : a ∉ frs X.stack := fun m => by
  obtain ⟨oe, vs, e, _, q⟩ := w.obj
  obtain ⟨_, o, e', no⟩ := w.fly.2.2.1.mem m
  cases e.symm.trans e'
  exact no vs q
theorem Down.new (w : Down X pins σ H a cls d B s0 s) : s0.heap.get? a = none := by
  cases e : s0.heap.get? a with
  | none => rfl
  | some o => cases (w.gr a o e w.off).symm.trans w.fly.2.1
theorem Down.known {C dd : Addr} (w : Down X pins σ H a (.ref C) (some dd) B s0 s) (hs : X.stack = X.env :: X.outer) (hf : X.env.frame = some X.env.locals) (hex : X.ex = []) : Inv X pins σ (upd H a (ExK C dd a)) s := by
  obtain ⟨oe, vs, e, z, q⟩ := w.obj
  refine inv_know w.here ?_ w.no (fun y => w.off ?_) (fun x c ec y => ?_) (fun p hp y => ?_) (exK_ok e z q)
  · cases e0 : X.s_0.heap.get? a with
    | none => rfl
    | some o =>
      obtain ⟨o', z'⟩ := w.inv.base.there a o e0 (hex ▸ List.not_mem_nil)
      cases w.new.symm.trans z'
  · rw [hs, y]
    exact List.mem_filterMap.mpr ⟨_, List.mem_cons_self, hf⟩
  · obtain ⟨v, o, e1, _⟩ := w.inv.cell x c ec
    rw [y] at e1
    cases w.new.symm.trans e1
  · have e1 := (w.inv.pin p hp).1
    rw [y] at e1
    cases w.new.symm.trans e1
/-- the clause's name goes when its suite has ended -/
theorem suite_end {M : Model} {n : Str} {i : Nat} {pos : Pos} {D : Ends} {f : Flow} {s6 : Shared} (ok : X.Ok) (hN : X.N.Nodup) (hi : X.N[i]? = some n) (hl : X.env.kindOf n = some .local)
    (h : SP (X.suite a (X.pn ++ pins)) [] { nx := fun σ' H' => D.nx (σ'.set i none) H', rt := D.rt, bk := fun σ' H' => D.bk (σ'.set i none) H', ct := fun σ' H' => D.ct (σ'.set i none) H' } f s6) :
    wpAny M X.A (do bindName X.env n .none; unbindBehindTheSuite X.env n pos) (fun _ s7 => SP X pins D f s7) X.xe s6 := by
  cases f with
  | ret u => obtain ⟨v, σ', H', J, r, q⟩ := h; exact gone_ok (inv_out J ok) hN hi hl fun _ I => ⟨v, _, H', I, r, q⟩
  | next => obtain ⟨σ', H', J, q⟩ := h; exact gone_ok (inv_out J ok) hN hi hl fun _ I => ⟨_, H', I, q⟩
  | brk => obtain ⟨σ', H', J, q⟩ := h; exact gone_ok (inv_out J ok) hN hi hl fun _ I => ⟨_, H', I, q⟩
  | cont => obtain ⟨σ', H', J, q⟩ := h; exact gone_ok (inv_out J ok) hN hi hl fun _ I => ⟨_, H', I, q⟩
theorem body_end {pn : List (Addr × Obj)} {xe : Value → Shared → Prop} {D : Ends} {f : Flow} {s1 : Shared} (ok : X.Ok) (h : SP (X.tr (X.pn ++ pins) xe) [] D f s1) : SP X pins D f s1 := by
  cases f with
  | ret u => obtain ⟨v, σ', H', J, r⟩ := h; exact ⟨v, σ', H', J.ofTry ok, r⟩
  | next => obtain ⟨σ', H', J, q⟩ := h; exact ⟨σ', H', J.ofTry ok, q⟩
  | brk => obtain ⟨σ', H', J, q⟩ := h; exact ⟨σ', H', J.ofTry ok, q⟩
  | cont => obtain ⟨σ', H', J, q⟩ := h; exact ⟨σ', H', J.ofTry ok, q⟩
end
section
variable {X : Cx} {pins : List (Addr × Obj)} {σ : L2.St} {H : Hp} {a : Addr} {cls : Value} {d : Option Addr} {B : Heap} {s0 s : Shared} {x n : Str} {c : Value} {i : Nat} {body suite : List Stmt} {b₀ : Stmt} {np pos pos' : Pos} {tb : WX → TS} {ts : TS} {Wout : WX} {D : Ends}
theorem Down.names (w : Down X pins σ H a cls d B s0 s) (hc : Names X x c) {Q : Value → Shared → Prop} {E : Value → Shared → Prop} (q : Q c s) : wpAny (model X.prog X.w) (X.A.mark (some (.ref a))) (eval (.Name x np) X.env) Q E s :=
  match hc with
  | ⟨hg, hd, .inl hm⟩ => ld_glob (X := X.suite a (X.pn ++ pins)) (inv_in w.here a) hg hm q hd
  | ⟨hg, hd, .inr ⟨hm, hv, hn⟩⟩ => ld_blt (X := X.suite a (X.pn ++ pins)) (inv_in w.here a) hg hm hv q hn hd
end
end Lq
namespace Lq
open PySem PySem.Spec PyProof.Rows L2
/-! ### several clauses -/
def PH (X : Cx) (hs : List ExceptHandler) (w : Ends → WX) : Prop := ∀ (pins : List (Addr × Obj)) (σ : L2.St) (H : Hp) (a : Addr) (cls : Value) (d : Option Addr) (B : Heap) (s0 s : Shared) (De : Ends),
  Down X pins σ H a cls d B s0 s → w De cls d σ H → wpAny (model X.prog X.w) X.A (handleBy (.ref a) X.env hs) (SP X pins De) X.xe s
section
variable {X : Cx} {x n : Str} {c : Value} {i : Nat} {body suite : List Stmt} {b₀ : Stmt} {h₀ : ExceptHandler} {hs : List ExceptHandler} {np pos pos' : Pos} {tb : WX → TS} {ts : TS} {Wout : WX} {w : Ends → WX}
theorem ph_nil (hst : X.stack = X.env :: X.outer) (hf : X.env.frame = some X.env.locals) (tk : Takes X Wout) : PH X [] (fun _ => Wout) := by
  intro pins σ H a cls d B s0 s De w hno
  have out : wpAny (model X.prog X.w) X.A (setFlight (.ref a) X.env.frame) (fun _ s4 => wpAny (model X.prog X.w) X.A (throw (.ref a) : Sem Flow) (SP X pins De) X.xe s4) X.xe s := by
    rw [hf]
    exact HandSPX.setFlight_upZ w.fly fun h hh up => wpAny_throw (tk _ _ ⟨a, B, s0, pins, σ, H, cls, d, rfl, w.inv, w.gr, w.up.trans up, Or.inr (Or.inr hh), w.no, w.os, w.bare, hno⟩)
  obtain ⟨_, _, _, oe, vs, t, _, _, e, _, q, e1, _⟩ := id w.fly
  refine wpAny_handleBy_nil ?_
  unfold PySem.passOn
  refine wpAny_bind (wpAny_field e q e1 ?_)
  have hn : (Value.ref t == Value.none) = false := by simp
  rw [hn]
  first
    | exact wpAny_bind out
    | exact wpAny_bind (wpAny_pure (wpAny_bind out))
/-- what the clause and those behind it wish of an error of the body -/
def wClause (K : PySem.W.Frag) (c : Value) (i : Nat) (ts : TS) (w : Ends → WX) (D : Ends) : WX := fun cls d σ H =>
  ∃ b, PySem.W.exmOne K cls c = some b ∧ (b = false → w D cls d σ H) ∧ (b = true → ∃ C dd, cls = .ref C ∧ d = some dd ∧ ∀ a, H a = none →
    ts { nx := fun σ' H' => D.nx (σ'.set i none) H', rt := D.rt, bk := fun σ' H' => D.bk (σ'.set i none) H', ct := fun σ' H' => D.ct (σ'.set i none) H' } (σ.set i (some (.ref a))) (upd H a (ExK C dd a)))
theorem ph_as (hst : X.stack = X.env :: X.outer) (hf : X.env.frame = some X.env.locals) (hex : X.ex = []) (hN : X.N.Nodup) (hi : X.N[i]? = some n) (hl : X.env.kindOf n = some .local) (hc : Names X x c)
    (hsu : ∀ (a : Addr) (pn : List (Addr × Obj)), PSs (X.suite a pn) (b₀ :: suite) ts) (hr : PH X hs w) : PH X (.ExceptHandler (some (.Name x np)) (some n) (b₀ :: suite) pos' :: hs) (wClause X.K c i ts w) := by
  intro pins σ H a cls d B s0 s De w hw
  obtain ⟨b, hb, hno, hyes⟩ := hw
  have lk := PySem.W.exm_one (M := model X.prog X.w) (e := a) w.here.kIn (by
    obtain ⟨oe, vs, e, z, _⟩ := w.obj
    exact fun A Q E s k q => wpAny_typeOf_ref (k _ _ e) (z.1.symm ▸ q)) hb
  refine wpAny_handleBy_cons (codeAny_handlers_test (w.names hc (lk.here ?_))) (fun q => nomatch q)
  cases b with
  | true =>
    obtain ⟨C, dd, rfl, rfl, hy⟩ := hyes rfl
    refine codeAny_handlers_suite_as (HandSPX.lands_againZ w.fly fun h fl up => ?_)
    have w' : Down X pins σ H a (.ref C) (some dd) B s0 { s with heap := h } := ⟨w.inv, w.gr, w.up.trans up, w.no, w.os, w.bare, fl⟩
    refine store_ok (X := X.suite a (X.pn ++ pins)) (v := .ref a) (inv_in (w'.known hst hf hex) a) hN hi (Or.inl hl) rfl (fun s5 I5 => ?_) (Or.inr hl)
    exact wpAny_mono ((hsu a (X.pn ++ pins)).run [] s5 _ _ _ I5 (hy a w.no)) (fun f s6 q => suite_end w.inv.ok hN hi hl q) fun _ _ z => z.elim
  | false =>
    exact hr pins σ H a cls d B s0 s De w (hno rfl)
theorem ps_tryH (hst : X.stack = X.env :: X.outer) (hf : X.env.frame = some X.env.locals)
    (hb : ∀ (W : WX) (pn : List (Addr × Obj)) (xe : Value → Shared → Prop), Takes (X.tr pn xe) W → PassesOwn (model X.prog X.w) X.A X.env xe → PSs (X.tr pn xe) body (tb W)) (hh : PH X (h₀ :: hs) w) :
    PS X (.Try body (h₀ :: hs) [] [] pos) (fun D σ H => tb (w D) D σ H) := by
  refine ⟨fun pins s σ H D I h => wpAny_Try_except (wpAny_mono ((hb _ (X.pn ++ pins) _ ?_ PassesOwn.looking).run [] s σ H D (I.toTry _) h) (fun f s1 q => ?_) fun _ _ q => q)⟩
  · rintro u s' ⟨a, B, s0, pins', σ', H', cls, d, rfl, J, gr, up, sky, na, os, ag, hw⟩
    refine Sky.land Zc.steady (by rw [I.ok.frames, hst]) hf (hst ▸ sky) fun h fl up2 => ?_
    exact hh pins σ' H' a cls d B s0 _ D ⟨J.ofTry I.ok, gr, up.trans up2, na, os, ag, hst.symm ▸ fl⟩ hw
  · have e := body_end (pn := X.pn) I.ok q
    cases f with
    | next => exact wpAny_execs_nil e
    | _ => exact e
end
/-! ### over plain data -/
def goneS (i : Nat) : O → O
  | .nx ρ => .nx (ρ.set i .no)
  | .bk ρ => .bk (ρ.set i .no)
  | .ct ρ => .ct (ρ.set i .no)
  | .err _ _ => .bad
  | r => r
def hNil : Xn → Rho → O := fun x ρ => .err x ρ
def hAs (ex : List (Nat × Bool)) (i : Nat) (g : Rho → O) (rest : Xn → Rho → O) : Xn → Rho → O := fun x ρ => match ex.lookup x.t with
  | some true => if isEx x.t then goneS i (g (ρ.set i (.d (.obj x.t x.fs)))) else .bad
  | some false => rest x ρ
  | none => .bad
def tryS (g : Rho → O) (h : Xn → Rho → O) : Rho → O := fun ρ => match g ρ with
  | .err x ρ1 => h x ρ1
  | r => r
def XH (X : Cx) (T : Tb) (W : WX) (hs : List ExceptHandler) (h : Xn → Rho → O) : Prop := PH X hs fun De cls d σ H => ∃ β G S ρ x, Ok X.K T β G S σ ρ H ∧ XR X.K T S x cls d ∧ PostS X.K T W β G S (h x ρ) De
theorem PH.impQ {X : Cx} {hs : List ExceptHandler} {w w' : Ends → WX} (h : PH X hs w) (i : ∀ De c d σ H, w' De c d σ H → w De c d σ H) : PH X hs w' := fun pins σ H a cls d B s0 s De dn q => h pins σ H a cls d B s0 s De dn (i De cls d σ H q)
section
variable {X : Cx} {T : Tb} {W : WX} {x n : Str} {c : Value} {i : Nat} {body suite : List Stmt} {b₀ : Stmt} {h₀ : ExceptHandler} {hs : List ExceptHandler} {np pos pos' : Pos} {g : Rho → O} {h : Xn → Rho → O} {ex : List (Nat × Bool)}
theorem xh_nil (hst : X.stack = X.env :: X.outer) (hf : X.env.frame = some X.env.locals) (tk : Takes X W) : XH X T W [] hNil := (ph_nil hst hf tk).impQ fun De cls d σ H q => by
  obtain ⟨β, G, S, ρ, x, o, xr, p⟩ := q
  exact p S σ H cls d (Same.refl _) o xr
theorem xh_as (i : Nat) (hst : X.stack = X.env :: X.outer) (hf : X.env.frame = some X.env.locals) (hex : X.ex = []) (hN : X.N.Nodup) (hc : Names X x c) (hx : ∀ t b, ex.lookup t = some b → PySem.W.exmOne X.K (.ref (T t)) c = some b)
    (hsu : ∀ (a : Addr) (pn : List (Addr × Obj)), XB (X.suite a pn) T W0 (b₀ :: suite) g) (hr : XH X T W hs h) (hi : X.N[i]? = some n := by rfl) (hl : X.env.kindOf n = some .local := by rfl) : XH X T W (.ExceptHandler (some (.Name x np)) (some n) (b₀ :: suite) pos' :: hs) (hAs ex i g h) :=
  (ph_as (ts := rS X.K T W0 g) hst hf hex hN hi hl hc hsu hr).impQ fun De cls d σ H q => by
    obtain ⟨β, G, S, ρ, x, o, xr, p⟩ := q
    obtain ⟨rfl, dd, vs, rfl, hd, rps⟩ := xr
    unfold hAs at p
    cases hb : ex.lookup x.t with
    | none => rw [hb] at p; exact p.elim
    | some b =>
      refine ⟨b, hx _ _ hb, fun z => ?_, fun z => ?_⟩
      · subst z
        rw [hb] at p
        exact ⟨β, G, S, ρ, x, o, ⟨rfl, dd, vs, rfl, hd, rps⟩, p⟩
      · subst z
        rw [hb] at p
        dsimp only at p
        split at p
        case isFalse => exact p.elim
        case isTrue ie =>
        refine ⟨_, _, rfl, rfl, fun a ha => ?_⟩
        have e1 := Ext.new (S := S) (H := H) (p := a) (o := ExK (T x.t) dd a) o.sh ha
        have sn : Same S (upd S a (ExK (T x.t) dd a)) := same_new (o.sh.free ha)
        have o1 := (o.ext e1).setD (i := i) (x := .obj x.t x.fs) (v := .ref a) ⟨a, vs, rfl, .inl ⟨ie, dd, upd_same, sn _ _ hd⟩, Rps.mono sn _ _ rps⟩
        refine ⟨β, G, _, _, o1, ?_⟩
        have p1 := p.mono sn
        revert p1
        cases g (ρ.set i (.d (.obj x.t x.fs))) with
        | nx ρ1 => exact fun p1 S' σ' H' e o' => p1 S' _ H' e o'.setN
        | bk ρ1 => exact fun p1 S' σ' H' e o' => p1 S' _ H' e o'.setN
        | ct ρ1 => exact fun p1 S' σ' H' e o' => p1 S' _ H' e o'.setN
        | rt v ρ1 => exact fun p1 => p1
        | rf ds ρ1 => exact fun p1 => p1
        | err x ρ1 => exact fun p1 => p1.elim
        | bad => exact fun p1 => p1
theorem xs_try (hst : X.stack = X.env :: X.outer) (hf : X.env.frame = some X.env.locals)
    (hb : ∀ (W : WX) (pn : List (Addr × Obj)) (xe : Value → Shared → Prop), Takes (X.tr pn xe) W → PassesOwn (model X.prog X.w) X.A X.env xe → XB (X.tr pn xe) T W body g) (hh : XH X T W (h₀ :: hs) h) :
    XS X T W (.Try body (h₀ :: hs) [] [] pos) (tryS g h) := (ps_tryH (tb := fun W => rS X.K T W g) hst hf hb hh).impQ fun De σ H q => by
  obtain ⟨β, G, S, ρ, o, p⟩ := q
  refine ⟨β, G, S, ρ, o, ?_⟩
  unfold tryS at p
  revert p
  cases g ρ with
  | err x ρ1 => exact fun p S' σ' H' c d e o' xr => ⟨β, G, S', ρ1, x, o', xr, p.mono e⟩
  | nx ρ1 => exact fun p => p
  | bk ρ1 => exact fun p => p
  | ct ρ1 => exact fun p => p
  | rt v ρ1 => exact fun p => p
  | rf ds ρ1 => exact fun p => p
  | bad => exact fun p => p
end
end Lq
namespace Lq
open PySem PySem.Spec PyProof.Rows L2
/-! ### an own error is made: by any arguments that the call has -/
section
variable {X : Cx} {p pos : Pos} {e : Expr} {es : List Expr}
/-- the call itself, behind the arguments -/
theorem mk_called {x : Str} {C fI : Addr} {k : Nat} {fd : FuncData} {ps : List Str} {sp : Sp} (T : OexC X.K C) (iC : PySem.W.findIn X.K (.ref C) "__init__" = some (some (.ref fI))) (tI : PySem.W.typeIn X.K (.ref fI) = some (.type "function"))
    (F1 : FnOk X.prog X.w X.K X.mg X.base (L2.CX X.prog X.w) k fI fd ps sp) (hr : Room (k + 1) X.A) (hb : Binds X.K fd ps []) {pins : List (Addr × Obj)} {σ : L2.St} {H1 : Hp} {s1 : Shared} {us : List Value} {vs : List V} {Q : L2.XK} (I1 : Inv X pins σ H1 s1) (r1 : Vals vs us) (hz : vs.length ≤ 1000)
    (q1 : ∀ a, H1 a = none → sp (.ref a :: vs) (upd H1 a (exo a C none)) (fun v H2 => v = .non ∧ ∃ (d : Addr) (fs : List (Str × V)), H2 a = some (exo a C (some d)) ∧ H2 d = some (exd d fs) ∧ H1 d = none ∧ Q (.ref C) (some d) (upd (L2.del H2 a) d (.xd fs))) (fun _ _ _ => False)) :
    wpAny (model X.prog X.w) X.A (call (.ref C) us) (MkP X pins σ Q) X.xe s1 := by
  obtain ⟨nm, q, N, bs, bm, sn, sub, ab, col, dd, k0, k1, k2, k3, k5, hC, hbm⟩ := T.cls
  obtain ⟨hp, g, dr, tk, os⟩ := s1
  have hsz : hp.objs.size ≤ hp.objs.size + 1 := Nat.le_succ _
  have hn : H1 (hp.objs.size + 1) = none := I1.hok.fresh hsz
  have hq := q1 (hp.objs.size + 1) hn
  have kk : ∀ b o, hp.get? b = some o → ((hp.push (PySem.W.kdv_tup us)).push (PySem.HandSPX.excO C hp.objs.size)).get? b = some o := fun b o e => Heap.get?_push_of_some _ (Heap.get?_push_of_some _ e)
  have hget : ((hp.push (PySem.W.kdv_tup us)).push (PySem.HandSPX.excO C hp.objs.size)).get? (hp.objs.size + 1) = some (PySem.HandSPX.excO C hp.objs.size) := by heap_get
  have I2 : Inv X pins σ (upd H1 (hp.objs.size + 1) (exo (hp.objs.size + 1) C none)) ⟨(hp.push (PySem.W.kdv_tup us)).push (PySem.HandSPX.excO C hp.objs.size), g, dr, tk, os⟩ :=
    I1.laid (t' := tk) (a := hp.objs.size + 1) (o := exo (hp.objs.size + 1) C none) (h' := (hp.push (PySem.W.kdv_tup us)).push (PySem.HandSPX.excO C hp.objs.size)) kk hsz (exo_ok hget)
  have r2 : Vals (V.ref (hp.objs.size + 1) :: vs) (Value.ref (hp.objs.size + 1) :: us) := .cons rfl r1
  have hl : (Value.ref (hp.objs.size + 1) :: us ++ []).length = ps.length := by
    have e := r2.length
    rw [F1.len _ _ _ _ hq] at e
    rw [List.append_nil]
    exact e.symm
  have hus : us.length ≤ sizeLine := by
    rw [← Paired.length r1, sizeLine_eq]
    omega
  have hbb := hb _ (Value.ref (hp.objs.size + 1) :: us) I2.kIn hl
  rw [List.append_nil] at hbb
  refine wpAny_call (PySem.HandSPX.call_own F.excBase_ValueError (fun Y => PySem.HandSPX.refsVE_contains Y bm hbm) (I1.kIn _ _ hC) (PySem.W.looks_findIn I1.kIn iC) (fun self => PySem.W.bind_fn I1.kIn self tI) hus
    (codeAny_mono (F1.run _ X.stack _ _ ⟨Value.ref (hp.objs.size + 1) :: us, []⟩ (Value.ref (hp.objs.size + 1) :: us) _ _ (fun _ _ _ => False) (hr.make C us []) (I2.env0.make C us []) hbb r2 hq) fun r s' hq' => ?_))
  cases r with
  | error er => exact (cx_no hq').elim
  | ok fl =>
    cases fl with
    | ret u =>
      obtain ⟨v, H2, os2, bare2, un2, hok2, rv, ev, d, fs, ea, ed, hd1, q2⟩ := hq'
      subst ev
      obtain ⟨h2, g2, d2, t2, os'⟩ := s'
      exact ⟨rv, mk_end (raises_own T.exC T.tyC) I1 hsz kk un2 hok2 os2 bare2 ea ed hd1 q2⟩
    | next => exact False.elim hq'
    | brk => exact False.elim hq'
    | cont => exact False.elim hq'
def tMkX (C : Addr) (sp : Sp) (ta : TA) : L2.St → Hp → L2.XK → Prop := fun σ H Q => ta σ H fun vs H1 => vs.length ≤ 1000 ∧ ∀ a, H1 a = none → sp (.ref a :: vs) (upd H1 a (exo a C none))
  (fun v H2 => v = .non ∧ ∃ (d : Addr) (fs : List (Str × V)), H2 a = some (exo a C (some d)) ∧ H2 d = some (exd d fs) ∧ H1 d = none ∧ Q (.ref C) (some d) (upd (L2.del H2 a) d (.xd fs))) (fun _ _ _ => False)
theorem pmk_x1 {x : Str} {C fI : Addr} {k : Nat} {fd : FuncData} {ps : List Str} {sp : Sp} {ta : TA} (T : OexC X.K C) (iC : PySem.W.findIn X.K (.ref C) "__init__" = some (some (.ref fI))) (tI : PySem.W.typeIn X.K (.ref fI) = some (.type "function"))
    (F1 : FnOk X.prog X.w X.K X.mg X.base (L2.CX X.prog X.w) k fI fd ps sp) (hr : Room (k + 1) X.A) (hb : Binds X.K fd ps []) (hm : X.mg x = some (.ref C)) (ha : PA X (e :: es) ta) (hg : L2.Gl X x := by rfl)
    (hdb : (x == ("__debug__" : Str)) = false := by decide) (he : starEach (e :: es) X.env = (false, eval e X.env) :: starEach es X.env := by rfl) (hpl : (backTo pos (starEach es X.env)).any (·.1) = false := by rfl) :
    PMk X (.Call (.Name x p) (e :: es) [] pos) (tMkX C sp ta) := by
  intro pins s σ H Q I h
  refine wpAny_Call_Name_kw (ld_glob I hg hm ?_ hdb)
  refine PySem.W.callWith_K (h₀ := X.base) I.ok.mod.kin T.kC (thn (ha.run pos pins s σ H _ I h) fun us s1 ⟨vs, H1, I1, r1, hz, q1⟩ => ⟨I1.kIn, ?_⟩) he hpl
  exact mk_called (x := x) T iC tI F1 hr hb I1 r1 hz q1
end
/-! ### the __init__ of an error: self.f = f; self.f = () -/
def spIn (K : PySem.W.Frag) (C : Addr) (f : Str) : Sp := fun vs H Q _ => ∃ a v, vs = [.ref a, v] ∧ H a = some (exo a C none) ∧ ∀ dx, H dx = none → dx ≠ a → Q .non (upd (upd H dx (exd dx [(f, v)])) a (exo a C (some dx)))
/-- what the text says of an own error class -/
structure EC (K : PySem.W.Frag) (mg : Str → Option Value) (x f : Str) (C fI : Addr) : Prop where
  gC : mg x = some (.ref C)
  ox : OexC K C
  iC : PySem.W.findIn K (.ref C) "__init__" = some (some (.ref fI))
  tI : PySem.W.typeIn K (.ref fI) = some (.type "function")
  noF : PySem.W.findIn K (.ref C) f = some none
  ga : PySem.W.findIn K (.ref C) "__getattribute__" = some (some (.builtin "BaseException.__getattribute__"))
  gg : PySem.W.findIn K (.ref C) "__getattr__" = some none
  hd : PySem.W.hasDictIn K C = true
theorem EC.xf {K : PySem.W.Frag} {mg : Str → Option Value} {x f : Str} {C fI : Addr} (E : EC K mg x f C fI) : XfC K C := ⟨E.ga, E.gg, E.ox.exC, E.hd⟩
section
variable {P : Program} {w : World} {K : PySem.W.Frag} {mg : Str → Option Value} {base : Heap}
theorem fn_in1 {qual f : Str} {st : Stmt} {fI C : Addr} {fd : FuncData} {N : List Str} (F : Fun K "__init__" qual st fI fd) (Sc : FnScope N ["self", f] (defScope st)) (hN : N = [("self" : Str), f]) (T : OexC K C) (noF : PySem.W.findIn K (.ref C) f = some none)
    (hb : ∀ (cdv : Value) (A : Around) (outer : List PySem.Env) (s : Shared) (H : Hp) (E : L2.XK), PSs (cxOf (L2.CX P w) P w K mg base N qual (defScope st) fI cdv A outer s H E) (defBody st) (tOst K f (tVar 0) (tVar 1))) :
    FnOk P w K mg base (L2.CX P w) 1 fI fd ["self", f] (spIn K C f) := by
  refine F.okX (k := 0) Sc (fun vs H Q E h => ?_) (fun cdv A outer s H vs Q E hr h => ⟨_, hb cdv A outer s H E, ?_⟩)
  · obtain ⟨a, v, rfl, _⟩ := h; rfl
  · obtain ⟨a, v, rfl, ha, q⟩ := h
    subst hN
    exact ⟨v, rfl, .ref a, rfl, a, C, rfl, T, noF, .inl ⟨ha, fun dx n ne => q dx n ne⟩⟩
end
/-! ### raise X(e), raise X() over plain data -/
def raiseS (t : Nat) (fs : Rho → R (List VD)) : Rho → O := fun ρ => (fs ρ).thnO fun vs ρ1 => match datAll vs with
  | some [d] => .err ⟨t, [d]⟩ ρ1
  | _ => .bad
def raise0S (t : Nat) : Rho → O := fun ρ => .err ⟨t, [.tup []]⟩ ρ
section
variable {X : Cx} {T : Tb} {W : WX} {p pos pos' : Pos} {e : Expr} {es : List Expr} {fs : Rho → R (List VD)}
theorem xs_raise1 {t : Nat} {x f : Str} {fI : Addr} {fd : FuncData} (hc : X.calm = true) (tk : Takes X W) (Ec : EC X.K X.mg x f (T t) fI) (F1 : FnOk X.prog X.w X.K X.mg X.base (L2.CX X.prog X.w) 1 fI fd ["self", f] (spIn X.K (T t) f)) (hr : Room 2 X.A) (hb : Binds X.K fd ["self", f] [])
    (hf : flds t = [f]) (ha : XA X T W (e :: es) fs) (hg : L2.Gl X x := by rfl) (hdb : (x == ("__debug__" : Str)) = false := by decide) (he : starEach (e :: es) X.env = (false, eval e X.env) :: starEach es X.env := by rfl) (hpl : (backTo pos (starEach es X.env)).any (·.1) = false := by rfl) :
    XS X T W (.Raise (some (.Call (.Name x p) (e :: es) [] pos)) none pos') (raiseS t fs) := (ps_raise hc tk (pmk_x1 Ec.ox Ec.iC Ec.tI F1 hr hb Ec.gC ha hg hdb he hpl)).impQ fun De σ H q => by
  obtain ⟨β, G, S, ρ, o, p⟩ := q
  refine ⟨β, G, S, ρ, o, PostS.thn (Rl := RpVs X.K T σ) p fun S1 H1 ρ1 vs us e1 o1 h1 p1 => ?_⟩
  split at p1
  case h_2 => exact p1.elim
  case h_1 d q =>
  have r := datAll_rps q h1
  obtain ⟨u, ur, rfl, hu, hur⟩ := r
  obtain rfl : ur = [] := hur
  refine ⟨by show 1 ≤ 1000; decide, fun a ha => ⟨a, u, rfl, upd_same, fun dx hdx hne => ⟨rfl, dx, [(f, u)], upd_same, by rw [upd_ne hne, upd_same], by rw [upd_ne hne] at hdx; exact hdx, ?_⟩⟩⟩
  have hdx' : H1 dx = none := by rw [upd_ne hne] at hdx; exact hdx
  have hH : upd (L2.del (upd (upd (upd H1 a (exo a (T t) none)) dx (exd dx [(f, u)])) a (exo a (T t) (some dx))) a) dx (.xd [(f, u)]) = upd H1 dx (.xd [(f, u)]) := by
    funext b
    by_cases hb : b = dx
    · subst hb; rw [upd_same, upd_same]
    · rw [upd_ne hb, upd_ne hb]
      by_cases hba : b = a
      · subst hba; rw [del_same, ha]
      · rw [del_ne hba, upd_ne hba, upd_ne hb, upd_ne hba]
  rw [hH]
  have e2 := Ext.new (S := S1) (H := H1) (p := dx) (o := .xd [(f, u)]) o1.sh hdx'
  exact p1 _ σ _ _ _ e2.s (o1.ext e2) ⟨rfl, dx, [u], rfl, by rw [upd_same, hf]; rfl, u, [], rfl, Rp.mono e2.s _ _ hu, rfl⟩
/-- e.f, e an error that was caught -/
def tXk (K : PySem.W.Frag) (f : Str) (te : TE) : TE := fun σ H Q => te σ H fun x H1 => ∃ (a C dd : Addr) (fs : List (Str × V)) (v : V), x = .ref a ∧ XfC K C ∧ PySem.W.findIn K (.ref C) f = some none ∧ H1 a = some (ExK C dd a) ∧ H1 dd = some (.xd fs) ∧ fs.lookup f = some v ∧ Q v H1
theorem pe_xk {te : TE} {n : Str} (he : PE X e te) (hb : attributeBase e n X.env (eval e X.env) = eval e X.env := by rfl) : PE X (.Attribute e n pos) (tXk X.K n te) := by
  refine ⟨fun pins s σ H Q I h => ?_⟩
  refine attr_of hb (thn (he.run pins s σ H _ I h) fun u s1 hh => ?_)
  obtain ⟨x, H1, I1, rx, a, C, dd, fs, v, ex, T, hno, ea, ed, l, q⟩ := hh
  subst ex
  obtain rfl : u = Value.ref a := rx
  obtain ⟨⟨oe, vs, ha, hz, hd⟩, _⟩ : ObjOk X.prog X.w H1 s1.heap a (ExK C dd a) := I1.hok a _ ea
  have hx : ObjOk X.prog X.w H1 s1.heap dd (.xd fs) := I1.hok dd _ ed
  obtain ⟨mA, hns, hr⟩ := hx
  obtain ⟨od, ho, hl⟩ := lookIn_ns hns
  obtain ⟨u, hu, ru⟩ := RelO.some_of (v := v) (o := mA n) (by rw [← l]; exact hr n)
  have J : PySem.W.InstAt s1.heap a oe C (some od) := ⟨ha, hz.1, by unfold PySem.W.notCls; rw [hd] <;> rfl, by rw [hz.2]; exact ho⟩
  exact HandSPX.exc_get I1.kIn J T.ga T.gg T.exC (PySem.W.findObj_own T.hdC hno rfl (by rw [hl, hu])) (handed_of ru) ⟨v, H1, I1.tok _, ru, q⟩
/-- the field f of an error of one of the classes ts -/
def fldD (ts : List Nat) (f : Str) : D → Option D
  | .obj t [d] => if isEx t && ts.contains t && decide (flds t = [f]) then some d else none
  | _ => none
theorem xe_efld {ts : List Nat} {n : Str} {fa : Rho → R VD} (hT : ∀ t ∈ ts, XfC X.K (T t) ∧ PySem.W.findIn X.K (.ref (T t)) n = some none) (he : XE X T W e fa) (hb : attributeBase e n X.env (eval e X.env) = eval e X.env := by rfl) : XE X T W (.Attribute e n pos) (op1E (fldD ts n) fa) :=
  (pe_xk he hb).impQ fun σ H Q h => by
    refine tUn_of (r := fun x H1 Q => ∃ (a C dd : Addr) (fs : List (Str × V)) (v : V), x = .ref a ∧ XfC X.K C ∧ PySem.W.findIn X.K (.ref C) n = some none ∧ H1 a = some (ExK C dd a) ∧ H1 dd = some (.xd fs) ∧ fs.lookup n = some v ∧ Q v H1) ?_ h
    intro S H x dx d Q e hx hd g
    unfold fldD at hd
    split at hd
    · rename_i t d0
      split at hd
      · rename_i hh
        cases hd
        rw [Bool.and_eq_true, Bool.and_eq_true] at hh
        obtain ⟨⟨h1, h2⟩, h3⟩ := hh
        obtain ⟨t1, t2⟩ := hT t (by simpa using h2)
        rcases hx with ⟨a, vs, rfl, ob, rps⟩ | ⟨_, _, _, _, z, _⟩
        · rcases ob with ⟨_, dd, s1, s2⟩ | ⟨z, _⟩ | ⟨z, _⟩ | ⟨z, _⟩ | ⟨z, _⟩
          · obtain ⟨v, vr, rfl, rv, hvr⟩ := rps
            obtain rfl : vr = [] := hvr
            rw [of_decide_eq_true h3] at s2
            exact ⟨a, T t, dd, [(n, v)], v, rfl, t1, t2, e _ _ s1, e _ _ s2, by simp [List.lookup], g.now e rv⟩
          · rw [sl_ex z] at h1; cases h1
          · rw [fn_ex z] at h1; cases h1
          · rw [dc_ex z] at h1; cases h1
          · rw [pt_ex z] at h1; cases h1
        · cases z
      · cases hd
    · cases hd
end
end Lq
namespace Lq
open PySem PySem.Spec PyProof.Rows L2
/-! ### tables of classes -/
def tbT (l : List (Nat × Addr)) : Tb := fun t => (l.lookup t).getD 0
def clsAt : Stmt → Nat → Stmt
  | .ClassDef _ _ _ body _ _ _ _ _ _ _, j => body.getD j (.Pass ⟨0, 0, 0, 0⟩)
  | s, _ => s
theorem exs_nil {K : PySem.W.Frag} {T : Tb} {c : Value} : ∀ t b, List.lookup t ([] : List (Nat × Bool)) = some b → PySem.W.exmOne K (.ref (T t)) c = some b := fun t b h => by cases h
theorem exs_cons {K : PySem.W.Frag} {T : Tb} {c : Value} {t0 : Nat} {b0 : Bool} {r : List (Nat × Bool)} (h : PySem.W.exmOne K (.ref (T t0)) c = some b0) (hr : ∀ t b, List.lookup t r = some b → PySem.W.exmOne K (.ref (T t)) c = some b) :
    ∀ t b, List.lookup t ((t0, b0) :: r) = some b → PySem.W.exmOne K (.ref (T t)) c = some b := fun t b q => by
  rw [List.lookup_cons] at q
  by_cases e : t = t0
  · subst e
    simp at q
    rw [← q]; exact h
  · have : (t == t0) = false := by simpa using e
    rw [this] at q
    exact hr t b q
theorem exf_nil {K : PySem.W.Frag} {T : Tb} {n : Str} : ∀ t ∈ ([] : List Nat), XfC K (T t) ∧ PySem.W.findIn K (.ref (T t)) n = some none := fun t h => by cases h
theorem exf_cons {K : PySem.W.Frag} {T : Tb} {n : Str} {t0 : Nat} {r : List Nat} (h1 : XfC K (T t0)) (h2 : PySem.W.findIn K (.ref (T t0)) n = some none) (hr : ∀ t ∈ r, XfC K (T t) ∧ PySem.W.findIn K (.ref (T t)) n = some none) :
    ∀ t ∈ t0 :: r, XfC K (T t) ∧ PySem.W.findIn K (.ref (T t)) n = some none := fun t h => by
  rcases List.mem_cons.1 h with rfl | h
  · exact ⟨h1, h2⟩
  · exact hr t h
/-! ### a new list by either way of a test; s.split(t) as a new list -/
section
variable {X : Cx} {T : Tb} {W : WX} {a b c : Expr} {pos : Pos} {ft : Rho → R Bool}
def ifF (ft : Rho → R Bool) (f g : Rho → R (List D)) : Rho → R (List D) := fun ρ => (ft ρ).bind fun k ρ1 => if k then f ρ1 else g ρ1
end
end Lq
namespace Lq
open PySem PySem.Spec PyProof.Rows L2
/-! ### sets of keys (ints, texts), with what a walk over them wants -/
def kOf (e : Int × Value) : Key := match e.2 with
  | .int k _ => .inl k
  | .str x _ => .inr x
  | _ => .inl 0
def GdK (w : World) (e : Int × Value) : Prop := keyIs (kOf e) e.2 = true ∧ e.1 = keyH w (kOf e)
def SetG (w : World) (h : Heap) (a : Addr) (ks : List Key) : Prop := ∃ (o : Obj) (es : Array (Int × Value)) (ep : Nat) (t : SetTable), h.get? a = some o ∧ o.ExactSet ∧ o.data = .set es ep t ∧
  ((∀ e ∈ es.toList, GdK w e) ∧ (es.toList.map kOf).Nodup ∧ ∀ k, k ∈ ks ↔ k ∈ es.toList.map kOf) ∧ es.size < scanBound ∧ t.fits es.size = true ∧ Ris t.place.toList ∧ (w.params.followText "set-order" = true ∨ t.led = true)
theorem SetG.at {w : World} {h h' : Heap} {a : Addr} {ks : List Key} (R : SetG w h a ks) (k : ∀ o, h.get? a = some o → h'.get? a = some o) : SetG w h' a ks := by
  obtain ⟨o, es, ep, t, ho, rest⟩ := R
  exact ⟨o, es, ep, t, k o ho, rest⟩
end Lq
namespace Lq
open PySem PySem.Spec PyProof.Rows L2
/-! ### set(x), sorted(set(x)), len(set(x)) -/
/-! ### over plain data -/
end Lq
namespace Lq
open PySem PySem.Spec PyProof.Rows L2 PySem.W
/-! ### isinstance(e, C), e an error that was caught -/
/-- isinstance of an error: the answers by its class -/
def isErrD (ex : List (Nat × Bool)) : D → Option D
  | .obj t [_] => if isEx t then (match ex.lookup t with | some b => some (.bl b) | none => none) else none
  | _ => none
end Lq
namespace Lq
open PySem PySem.Spec PyProof.Rows L2
/-! ### keywords in any order -/
section
variable {X : Cx} {T : Tb} {W : WX} {e : Expr} {es : List Expr} {fs : Rho → R (List VD)} {pos : Pos}
/-- the values by the parameters' order: pm tells where each stands among the keywords -/
def permL {α : Type} (pm : List Nat) (xs : List α) : List α := pm.filterMap fun i => xs[i]?
/-- the values, by the parameters -/
def permA (n : Nat) (pm : List Nat) (fs : Rho → R (List VD)) : Rho → R (List VD) := fun ρ => (fs ρ).bind fun vs ρ1 => if vs.length = n then .ok (permL pm vs) ρ1 else .bad
theorem RpVs.length {K : PySem.W.Frag} {σ : L2.St} {S : Hp} : ∀ {vs : List VD} {us : List V}, RpVs K T σ S vs us → us.length = vs.length
  | [], _, h => by rw [show _ = [] from h]; rfl
  | _ :: _, _, ⟨u, r, e1, h, hs⟩ => by rw [e1, List.length_cons, List.length_cons, RpVs.length hs]
end
end Lq
namespace Lq
open PySem PySem.Spec PyProof.Rows L2
/-! ### the law's own promise, whatever the table of classes -/
def spA (K : PySem.W.Frag) (n : Nat) (F : List D → Res) : Sp := fun vs H Q E => ∀ T, T 91 = 0 → spP K T n F vs H Q E
/-! ### enumerate of lists and tuples, from any count -/
theorem meets_enum1 {v : Value} {o : Obj} {H : Heap → Prop} (B : Begins v o H) : Meets (Builtin.«enumerate.__new__» ⟨[.type "enumerate", v], []⟩) (fun _ R s => H s.heap ∧
      R (.ok (.ret (.ref (s.heap.push o).objs.size))) { s with heap := (s.heap.push o).push { cls := .type "enumerate", data := .fields #[.none, .bool false, .ref s.heap.objs.size, rawInt 0, .none, .none] } }) :=
  .of_wp fun prog w A R s ⟨h1, h⟩ => by
    obtain ⟨hp, gs, dr, tk, os⟩ := s
    have below := sub_enumerate
    have q1 : ∀ {A' : Around} {E : Value → Shared → Prop} {Q : Value → Shared → Prop}, Q (.ref hp.objs.size) ⟨hp.push o, gs, dr, tk, os⟩ → wpAny (model prog w) A' (pyIter v) Q E ⟨hp, gs, dr, tk, os⟩ := fun q => B.iter prog w _ _ ⟨hp, gs, dr, tk, os⟩ _ h1 q
    wp_walk using q1
    refine wpAny_stack_any fun st => wpAny_pure ?_
    split
    · rename_i c _ _ _ _ _
      cases (c == Value.type "enumerate") <;> (wp_walk using q1; exact ⟨_, rfl, h⟩)
    · wp_walk using q1
      exact ⟨_, rfl, h⟩
section
variable {prog : Program} {w : World} {A : Around} {E : Value → Shared → Prop} {s : Shared}
theorem enum_begin1 {v : Value} {o : Obj} {H : Heap → Prop} {Q : Value → Shared → Prop} (B : Begins v o H) (h1 : H s.heap)
    (h : ∀ h', IsEnum h' (s.heap.objs.size + 1) s.heap.objs.size 0 .none → h'.get? s.heap.objs.size = some o → (∀ b o, s.heap.get? b = some o → h'.get? b = some o) → Q (.ref (s.heap.objs.size + 1)) { s with heap := h' }) :
    wpAny (model prog w) A (call (.type "enumerate") [v]) Q E s := by
  refine callType_new F.called_enumerate (by decide) (F.typeCall_enumerate_1 _) (F.newCall_enumerate_1 _) (fun obj => F.args_object_init_2 obj _) F.entry_enumerate_new (meets_enum1 B) ⟨h1, ?_⟩
  have sz : (s.heap.push o).objs.size = s.heap.objs.size + 1 := Heap.size_push ..
  show _ ∧ _
  rw [sz]
  have en : IsEnum ((s.heap.push o).push { cls := .type "enumerate", data := .fields #[.none, .bool false, .ref s.heap.objs.size, rawInt 0, .none, .none] }) (s.heap.objs.size + 1) s.heap.objs.size 0 .none := by
    have z := Heap.get?_push_size (s.heap.push o) (o := { cls := .type "enumerate", data := .fields #[.none, .bool false, .ref s.heap.objs.size, rawInt 0, .none, .none] }) rfl
    rwa [sz] at z
  exact ⟨⟨_, en, rfl⟩, h _ en (Heap.get?_push_of_some _ (Heap.get?_push_size _ B.free)) fun b o x => Heap.get?_push_of_some _ (Heap.get?_push_of_some _ x)⟩
end
/-- the items xs of the list or tuple at a, each in a new pair, counted from k -/
def Itn2 (Sq : Hp → Prop) (xs : List V) (k : Int) : It :=
  ⟨fun i H => Sq H ∧ i < xs.length, fun i H v H' => ∃ T x, v = .ref T ∧ H T = none ∧ H' = upd H T (.tup [.int (k + (i : Nat)), x]) ∧ xs[i]? = some x, fun i H => Sq H ∧ i = xs.length⟩
/-- what a kind of sequence has to say: where its items lie, how its iterator draws -/
structure SeqK (P : Program) (w : World) (K : PySem.W.Frag) (a it : Addr) (Sq : Hp → Prop) (xs : List V) (ItA : Nat → Heap → Prop) (At : Heap → Array Value → Prop) : Prop where
  inv : ∀ {X : Cx} {pins : List (Addr × Obj)} {σ : L2.St} {H : Hp} {s : Shared}, X.K = K → Inv X pins σ H s → Sq H → ∃ its : List Value, Vals xs its ∧ At s.heap its.toArray
  draw : ∀ {A : Around} (items : Array Value), A.handled = none → Draws P w A it [it, a] items.size (fun i v => items[i]? = some v) (fun i h => ItA i h ∧ At h items)
  at_ : ∀ {i : Nat} {h h' : Heap}, ItA i h → (∀ o, h.get? it = some o → h'.get? it = some o) → ItA i h'
  obj : ∀ {i : Nat} {h : Heap}, ItA i h → ∃ o, h.get? it = some o ∧ ∀ v, o.data ≠ .cell v
  ne : a ≠ it
  there : ∀ {h : Heap} {items : Array Value}, At h items → a < h.objs.size
theorem turn_enumG {P : Program} {w : World} {K : PySem.W.Frag} {elts : List Expr} {kk : Nat} {tpos : Pos} {a e it : Addr} {Sq : Hp → Prop} {xs : List V} {ItA : Nat → Heap → Prop} {At : Heap → Array Value → Prop} {k : Int} (S : SeqK P w K a it Sq xs ItA At) (hae : a ≠ e) :
    Turn P w K (.Tuple elts kk tpos) (Itn2 Sq xs k) [e, it] e (fun i h => (∃ old, IsEnum h e it (k + (i : Nat)) old) ∧ ItA i h ∧ e ≠ it) where
  mem := List.mem_cons_self
  obj := fun i h ⟨⟨old, he⟩, hi, _⟩ b hb => by
    rcases List.mem_cons.1 hb with z | z
    · subst z; exact ⟨_, he, fun v q => nomatch q⟩
    · rw [List.mem_singleton.1 z]; exact S.obj hi
  keep := fun i h h' ⟨⟨old, he⟩, hi, hne⟩ kp => ⟨⟨old, kp e List.mem_cons_self _ he⟩, S.at_ hi fun o q => kp it (List.mem_cons_of_mem _ List.mem_cons_self) o q, hne⟩
  item := by
    rintro X rfl rfl hK hc i pins s σ H E I hf ⟨⟨old, he⟩, hit, hne⟩ ⟨hq, hi⟩
    obtain ⟨its, rv, at1⟩ := S.inv hK I hq
    obtain ⟨x, hx⟩ : ∃ x, xs[i]? = some x := ⟨_, List.getElem?_eq_getElem hi⟩
    have hel : e < s.heap.objs.size := Heap.lt_size he
    have hil : it < s.heap.objs.size := by obtain ⟨o, q, _⟩ := S.obj hit; exact Heap.lt_size q
    have hs : i < its.toArray.size := by rw [List.size_toArray, ← rv.length]; exact hi
    have D := S.draw (A := X.A.in1) its.toArray (by rw [← I.ok.hd hc])
    refine wpAny_pyNext_enum_itemC D he ⟨hit, at1⟩ hs hne (fun z => ?_) fun u h' tk hu out st' hT hsz hk => ?_
    · rcases List.mem_cons.1 z with z | z
      · exact hne z
      · exact hae (List.mem_singleton.1 z).symm
    obtain ⟨u', hu', ru⟩ := rv.get hx
    have eu : u = u' := by rw [List.getElem?_toArray, hu'] at hu; exact (Option.some.inj hu).symm
    subst eu
    refine ⟨_, rfl, wpAny_letOwnedTupleGo_enum (s := { s with heap := h', toks := tk + 1 }) out fun h'' he' sb => ?_⟩
    have hT2 : h''.get? s.heap.objs.size = some { cls := .type "tuple", data := .seq #[.int (k + (i : Nat)) tk, u] } := (sb.2 _ (Nat.ne_of_gt hel)).trans hT
    have new : ObjOk X.prog X.w (upd H s.heap.objs.size (.tup [.int (k + (i : Nat)), x])) h'' s.heap.objs.size (.tup [.int (k + (i : Nat)), x]) := ⟨by show 2 ≤ sizeLine; decide, [.int (k + (i : Nat)) tk, u], .cons ⟨_, rfl⟩ (.cons ru .nil), ⟨_, hT2, rfl, _, rfl⟩⟩
    have I1 : Inv X pins σ (upd H s.heap.objs.size (.tup [.int (k + (i : Nat)), x])) { s with heap := h'', toks := tk + 1 } :=
      I.turnedNew (ch := [e, it]) (fun b ob hb q => (sb.2 b (fun z => hb (z ▸ List.mem_cons_self))).trans (hk b ob (fun z => hb (z ▸ List.mem_cons_self)) (fun z => hb (z ▸ List.mem_cons_of_mem _ List.mem_cons_self)) q)) hf (Nat.le_refl _) new
    refine ⟨.ref s.heap.objs.size, _, I1, rfl, ⟨_, x, rfl, I.hok.fresh (Nat.le_refl _), rfl, hx⟩, ⟨⟨u, ?_⟩, S.at_ st'.1 fun o q => (sb.2 it (Ne.symm hne)).trans q, hne⟩, fun b hb => ?_⟩
    · rw [show k + ((i + 1 : Nat) : Int) = k + (i : Nat) + 1 by omega]; exact he'
    · have lb : b < s.heap.objs.size := by
        rcases List.mem_cons.1 hb with z | z
        · rw [z]; exact hel
        · rw [List.mem_singleton.1 z]; exact hil
      rw [upd_ne (Nat.ne_of_lt lb)]
      exact (hf b hb).1
  done := by
    rintro X rfl rfl hK hc i pins s σ H E I hf ⟨⟨old, he⟩, hit, hne⟩ ⟨hq, rfl⟩
    obtain ⟨its, rv, at1⟩ := S.inv hK I hq
    obtain ⟨f0, f1, f2, f3, f4, f5⟩ := hf it (List.mem_cons_of_mem _ List.mem_cons_self)
    have D := S.draw (A := X.A.in1) its.toArray (by rw [← I.ok.hd hc])
    have hl : its.toArray.size = xs.length := by rw [List.size_toArray, ← rv.length]
    rw [hl] at D
    exact wpAny_pyNext_enum_endD D he ⟨hit, at1⟩ fun h' eb => ⟨rfl, I.turned (t' := s.toks) (fun b o hb q => eb b o hb q) f0 f1 f3 f4 f5⟩
  self := fun A i s Q E ⟨⟨_, he⟩, _⟩ h => wpAny_pyIter_enum he h
theorem seqK_list {P : Program} {w : World} {K : PySem.W.Frag} {a it : Addr} {xs : List V} (hne : a ≠ it) : SeqK P w K a it (fun H => SqL K H a xs) xs (fun i h => h.IsListIter it a i) (fun h items => h.IsList a items) where
  inv := fun hK I hq => by
    subst hK
    obtain ⟨its, rv, p, hz⟩ := I.list hq
    exact ⟨its, rv, p.isList⟩
  draw := fun items hh => Draws.list hh it a hne items
  at_ := fun hi q => hi.at q
  obj := fun ⟨o, ho, hc, hd⟩ => ⟨o, ho, fun v q => by rw [hd] at q; cases q⟩
  ne := hne
  there := fun ⟨o, ho, _⟩ => Heap.lt_size ho
theorem seqK_tup {P : Program} {w : World} {K : PySem.W.Frag} {a it : Addr} {xs : List V} (hne : a ≠ it) : SeqK P w K a it (fun H => SqT K H a xs) xs (fun i h => h.IsTupleIter it a i) (fun h items => h.IsTuple a items) where
  inv := fun hK I hq => by
    subst hK
    obtain ⟨its, rv, p, hz⟩ := I.tuple hq
    exact ⟨its, rv, p⟩
  draw := fun items hh => Draws.tuple hh it a hne items
  at_ := fun hi q => hi.at q
  obj := fun ⟨o, ho, hc, hd⟩ => ⟨o, ho, fun v q => by rw [hd] at q; cases q⟩
  ne := hne
  there := fun ⟨o, ho, _⟩ => Heap.lt_size ho
/-- enumerate(e), enumerate(e, k) -/
def iEnumG (K : PySem.W.Frag) (k : Int) (ta : TA) (ok : List V → V → Prop) : TI := fun σ H R => ta σ H fun vs H1 => ∃ a xs, ok vs (.ref a) ∧ ((SqL K H1 a xs ∧ R (Itn2 (fun H => SqL K H a xs) xs k) H1) ∨ (SqT K H1 a xs ∧ R (Itn2 (fun H => SqT K H a xs) xs k) H1))
section
variable {X : Cx} {e e2 : Expr} {ta : TA} {p pos tpos : Pos} {elts : List Expr} {kk : Nat}
theorem enum_done {pins : List (Addr × Obj)} {σ : L2.St} {H1 : Hp} {s1 : Shared} {R : It → Hp → Prop} {a : Addr} {xs : List V} {k : Int} {h' : Heap} {Sq : Hp → Prop} {ItA : Nat → Heap → Prop} {At : Heap → Array Value → Prop} (I1 : Inv X pins σ H1 s1) (la : a < s1.heap.objs.size) (he : IsEnum h' (s1.heap.objs.size + 1) s1.heap.objs.size k .none) (hk : ∀ b o, s1.heap.get? b = some o → h'.get? b = some o)
    (S : SeqK X.prog X.w X.K a s1.heap.objs.size Sq xs ItA At) (st : ItA 0 h') (q : R (Itn2 Sq xs k) H1) : wpAny (model X.prog X.w) X.A (pyIter (.ref (s1.heap.objs.size + 1))) (PIE X pins σ (.Tuple elts kk tpos) R) X.xe { s1 with heap := h' } := by
  refine wpAny_pyIter_enum he ⟨s1.heap.objs.size + 1, [s1.heap.objs.size + 1, s1.heap.objs.size], _, _, H1, rfl, I1.kept (t' := s1.toks) hk, turn_enumG (k := k) S (Nat.ne_of_lt (Nat.lt_succ_of_lt la)), ⟨⟨.none, ?_⟩, st, Nat.succ_ne_self _⟩, fun b hb => ?_, q⟩
  · rw [show k + ((0 : Nat) : Int) = k by omega]; exact he
  · have le : s1.heap.objs.size ≤ b := by
      rcases List.mem_cons.1 hb with z | z
      · rw [z]; exact Nat.le_succ _
      · rw [List.mem_singleton.1 z]; exact Nat.le_refl _
    exact I1.fpOk le (I1.hok.fresh le)
theorem pi_enumG (hg : L2.Gl X "enumerate") (hm : X.mg "enumerate" = none) (ha : PA X [e] ta) (hs : starEach [e] X.env = [(false, eval e X.env)] := by rfl) :
    PI X (.Tuple elts kk tpos) (.Call (.Name "enumerate" p) [e] [] pos) (iEnumG X.K 0 ta fun vs r => vs = [r]) := by
  refine ⟨fun pins s σ H R I h => Call_ (ld_blt I hg hm boot_enumerate (PyProof.Rows.callWith_type1 (thn (ha.run pos pins s σ H _ I h) fun us s1 ⟨vs, H1, I1, r1, a, xs, ex, q1⟩ => ?_) hs rfl))⟩
  subst ex
  rw [Vals.ref1 r1]
  rcases q1 with ⟨hq, q⟩ | ⟨hq, q⟩
  · obtain ⟨its, rv, p', hz⟩ := I1.list hq
    have la : a < s1.heap.objs.size := by obtain ⟨o, ho, _⟩ := p'.isList; exact Heap.lt_size ho
    exact enum_begin1 (begins_list a _) p'.isList fun h' he hit hk => enum_done I1 la he hk (seqK_list (Nat.ne_of_lt la)) ⟨_, hit, rfl, rfl⟩ q
  · obtain ⟨its, rv, p', hz⟩ := I1.tuple hq
    have la : a < s1.heap.objs.size := by obtain ⟨o, ho, _⟩ := p'; exact Heap.lt_size ho
    exact enum_begin1 (begins_tuple a _) p' fun h' he hit hk => enum_done I1 la he hk (seqK_tup (Nat.ne_of_lt la)) ⟨_, hit, rfl, rfl⟩ q
end
/-! over plain data -/
def enumDk (k : Int) (ds : List D) : List D := ds.zipIdx.map fun p => D.tup [.int (k + (p.2 : Nat)), p.1]
theorem enumDk_zero (ds : List D) : enumDk 0 ds = enumD ds := by
  unfold enumDk enumD
  exact List.map_congr_left fun p _ => by rw [Int.zero_add]
def enumA (fs : Rho → R (List VD)) : Rho → R (List D) := fun ρ => (fs ρ).bind fun vs ρ1 => match vs with
  | [.d (.lst ds)] => .ok (enumD ds) ρ1
  | [.d (.tup ds)] => .ok (enumD ds) ρ1
  | [.sl i] => (match ρ1[i]? with | some (.m xs) => .ok (enumD xs) (ρ1.set i (.d (.lst xs))) | _ => .bad)
  | _ => .bad
def enumK (k : Int) (fs : Rho → R (List VD)) : Rho → R (List D) := fun ρ => (fs ρ).bind fun vs ρ1 => match vs with
  | [.d (.lst ds), .d (.int j)] => if j = k then .ok (enumDk k ds) ρ1 else .bad
  | [.d (.tup ds), .d (.int j)] => if j = k then .ok (enumDk k ds) ρ1 else .bad
  | _ => .bad
section
variable {K : PySem.W.Frag} {T : Tb} {S : Hp}
theorem wk_enumG {Sq : Hp → Prop} {ds : List D} {vs : List V} {k : Int} (hs : ∀ S1 H1, Same S S1 → SameT T S1 H1 → Sq H1) (r : Rps K T S ds vs) : Wk K T S (enumDk k ds) (Itn2 Sq vs k) := fun S1 H1 e1 e2 i => by
  unfold enumDk
  refine ⟨fun d hd => ?_, fun hl => ?_⟩
  · rw [List.getElem?_map] at hd
    cases q : ds.zipIdx[i]? with
    | none => rw [q] at hd; cases hd
    | some p =>
      rw [q] at hd
      rw [List.getElem?_zipIdx] at q
      cases q2 : ds[i]? with
      | none => rw [q2] at q; cases q
      | some d0 =>
        rw [q2] at q
        have hp : (d0, 0 + i) = p := Option.some.inj q
        subst hp
        have hd' : D.tup [.int (k + ((0 + i : Nat) : Int)), d0] = d := Option.some.inj hd
        subst hd'
        obtain ⟨v, hv, rv⟩ := r.get q2
        refine ⟨⟨hs S1 H1 e1 e2, (List.getElem?_eq_some_iff.mp hv).1⟩, fun x H2 hy => ?_⟩
        obtain ⟨t, x0, rfl, ht, rfl, hx⟩ := hy
        rw [hv] at hx; cases hx
        have sn := same_new (o := .tup [.int (k + (i : Nat)), v]) (e2.free ht)
        refine ⟨upd S1 t (.tup [.int (k + (i : Nat)), v]), Ext.new e2 ht, t, [.int (k + (i : Nat)), v], rfl, SqT.of upd_same, _, _, rfl, ?_, _, _, rfl, Rp.mono sn _ _ (Rp.mono e1 _ _ rv), rfl⟩
        show V.int _ = V.int _
        rw [Nat.zero_add]
  · refine ⟨hs S1 H1 e1 e2, ?_⟩
    rw [hl, List.length_map, List.length_zipIdx, r.len]
end
section
variable {X : Cx} {T : Tb} {W : WX} {e e2 : Expr} {fs : Rho → R (List VD)} {p pos tpos : Pos} {elts : List Expr} {kk : Nat}
theorem seqG_of {K : PySem.W.Frag} {β : Bt} {G S1 H1 : Hp} {σ : L2.St} {ρ1 : Rho} {k : Int} {x : D} {ds : List D} {u : V} {Q : It → Hp → Prop} (o1 : Ok K T β G S1 σ ρ1 H1) (hx : Rp K T S1 x u) (hi : x.items? = some ds) (p1 : ∀ S' H' J, Same S1 S' → Ok K T β G S' σ ρ1 H' → Wk K T S' (enumDk k ds) J → Q J H') :
    ∃ a xs, u = .ref a ∧ ((SqL K H1 a xs ∧ Q (Itn2 (fun H => SqL K H a xs) xs k) H1) ∨ (SqT K H1 a xs ∧ Q (Itn2 (fun H => SqT K H a xs) xs k) H1)) := by
  cases x with
  | lst ys =>
    cases hi
    obtain ⟨a, vs, rfl, q, r⟩ := hx
    exact ⟨a, vs, rfl, .inl ⟨SqL.of (o1.sh _ _ q), p1 S1 H1 _ (Same.refl _) o1 (wk_enumG (fun S2 H2 a1 a2 => SqL.of (a2 _ _ (a1 _ _ q))) r)⟩⟩
  | tup ys =>
    cases hi
    obtain ⟨a, vs, rfl, q, r⟩ := hx
    exact ⟨a, vs, rfl, .inr ⟨same_tup o1.sh q, p1 S1 H1 _ (Same.refl _) o1 (wk_enumG (fun S2 H2 a1 a2 => same_tup a2 (same_tup a1 q)) r)⟩⟩
  | _ => cases hi
theorem xi_enumA (hm : X.mg "enumerate" = none) (ha : XA X T W [e] fs) (hg : L2.Gl X "enumerate" := by rfl) (hs : starEach [e] X.env = [(false, eval e X.env)] := by rfl) : XI X T W (.Tuple elts kk tpos) (.Call (.Name "enumerate" p) [e] [] pos) (enumA fs) := (pi_enumG hg hm ha hs).impQ fun σ H Q h => by
  obtain ⟨β, G, S, ρ, o, p⟩ := h
  refine ⟨β, G, S, ρ, o, PostI.thn (Rl := RpVs X.K T σ) p fun S1 H1 ρ1 v u e1 o1 h1 p1 => ?_⟩
  have go : ∀ {x : D} {ds : List D}, x.items? = some ds → RpVs X.K T σ S1 [.d x] u → PostI X.K T W β G S1 σ (.ok (enumD ds) ρ1) Q → ∃ a xs, u = [.ref a] ∧ ((SqL X.K H1 a xs ∧ Q (Itn2 (fun H => SqL X.K H a xs) xs 0) H1) ∨ (SqT X.K H1 a xs ∧ Q (Itn2 (fun H => SqT X.K H a xs) xs 0) H1)) := fun {x ds} hi h1 p1 => by
    obtain ⟨z, rfl, hz⟩ := h1.one
    obtain ⟨a, xs, rfl, q⟩ := seqG_of (k := 0) (Q := Q) o1 hz hi fun S' H' J e o wk => p1 S' H' J e o (by rw [enumDk_zero] at wk; exact wk)
    exact ⟨a, xs, rfl, q⟩
  split at p1
  · exact go rfl h1 p1
  · exact go rfl h1 p1
  · rename_i i
    split at p1
    · rename_i xs q
      obtain ⟨z, rfl, hz⟩ := h1.one
      obtain ⟨a, vs, e2, e3, e4, r, o2⟩ := o1.frzSlot q
      have : σ[i]? = some (some z) := hz
      rw [e2] at this; cases this
      refine ⟨a, vs, rfl, .inl ⟨SqL.of e3, p1 _ H1 _ (same_new e4) o2 ?_⟩⟩
      rw [← enumDk_zero]
      exact wk_enumG (fun S2 H2 a1 a2 => SqL.of (a2 _ _ (a1 _ _ upd_same))) (Rps.mono (same_new e4) _ _ r)
    · exact p1.elim
  · exact p1.elim
end
end Lq
namespace Lq
open PySem PySem.Spec PyProof.Rows L2 PySem.W
/-! ### which class is under which: by the text's own facts -/
end Lq
namespace Lq
open PySem
/-! ### comprehensions, loops, tests: plain laws -/
/-! ### names -/
theorem flat_strs (ws : List Str) : ((ws.map D.str).all D.flat) = true := List.all_eq_true.2 fun d hd => by
  obtain ⟨w, _, rfl⟩ := List.mem_map.1 hd
  rfl
theorem anyEq_strs (w : Str) (ws : List Str) : anyEq (.str w) (ws.map D.str) = decide (w ∈ ws) := by
  unfold anyEq
  rw [List.any_map]
  by_cases h : w ∈ ws
  · rw [decide_eq_true h, List.any_eq_true]
    exact ⟨w, h, by simp [deq]⟩
  · rw [decide_eq_false h, List.any_eq_false]
    intro x hx
    simp [deq]
    exact fun e => h (e ▸ hx)
theorem nin_strs {x : D} {ws : List Str} (hx : x.items? = some (ws.map D.str)) (w : Str) : ninD (.str w) x = some (.bl (!decide (w ∈ ws))) := by
  cases x with
  | lst ys => cases hx; simp [ninD, D.flat, flat_strs, anyEq_strs]
  | tup ys => cases hx; simp [ninD, D.flat, flat_strs, anyEq_strs]
  | _ => cases hx
theorem LtS.trans {x y z : Str} (h1 : LtS x y) (h2 : LtS y z) : LtS x z := List.lt_trans h1 h2
instance (x y : Str) : Decidable (LtS x y) := inferInstanceAs (Decidable (x.cps.toList < y.cps.toList))
end Lq
namespace Lq
open PySem PySem.Spec PyProof.Rows L2
/-! ### an instance with slots is no code object -/
/-! ### an instance with slots is made -/
/-! ### __init__: two statements, then self.f1 = e1, self.f0 = g(self.f1) -/
end Lq
namespace Lq
open PySem PySem.Spec PyProof.Rows L2
/-! ### instances with slots: fields, properties -/
def slotD (t i : Nat) : D → Option D
  | .obj t' fs => if t' = t then fs[i]? else none
  | _ => none
def propD (t : Nat) (F : List D → Res) : D → Option D
  | .obj t' fs => if t' = t then (match F [.obj t' fs] with | .ok d => some d | _ => none) else none
  | _ => none
end Lq
namespace Lq
open PySem PySem.Spec PyProof.Rows L2
/-! ### (*a, b) -/
def starA (fa : Rho → R VD) (fs : Rho → R (List VD)) : Rho → R (List VD) := fun ρ => (fa ρ).bind fun v ρ1 => match (res v ρ1).bind D.items? with
  | some xs => (fs ρ1).bind fun vs ρ2 => .ok (xs.map VD.d ++ vs) ρ2
  | none => .bad
end Lq
namespace Lq
open PySem PySem.Spec PyProof.Rows L2
/-! ### C(), by the default -/
section
variable {X : Cx} {C f : Addr} {k : Nat} {fd : FuncData} {ps : List Str} {sp : Sp} {E : L2.St → L2.XK} {x : Str} {p pos : Pos}
def dfA (d : D) : Rho → R (List VD) := fun ρ => .ok [.d d] ρ
end
/-! ### what of the text is said of a class with slots -/
end Lq
namespace Lq
open PySem PySem.Spec PyProof.Rows L2
/-! ### x += e, x -= e (ints); list.extend, list.remove -/
def augS (i : Nat) (f : Int → Int → Int) (fa : Rho → R VD) : Rho → O := fun ρ => match ρ[i]? with
  | some (.d (.int a)) => (fa ρ).thnO fun v ρ1 => match v with | .d (.int b) => .nx (ρ1.set i (.d (.int (f a b)))) | _ => .bad
  | _ => .bad
def extE (i : Nat) (fs : Rho → R (List VD)) : Rho → R VD := fun ρ => match ρ[i]? with
  | some (.m _) => (fs ρ).bind fun vs ρ1 => (match ρ1[i]?, vs with
    | some (.m xs), [.d (.lst ys)] => if fits (xs.length + ys.length) then .ok (.d .non) (ρ1.set i (.m (xs ++ ys))) else .bad
    | _, _ => .bad)
  | _ => .bad
def asStrs : List D → Option (List Str)
  | [] => some []
  | .str w :: r => (asStrs r).map (w :: ·)
  | _ => none
def remE (i : Nat) (fs : Rho → R (List VD)) : Rho → R VD := fun ρ => match ρ[i]? with
  | some (.m _) => (fs ρ).bind fun vs ρ1 => (match ρ1[i]?, vs with
    | some (.m xs), [.d (.str w)] => (match asStrs xs with | some ws => if w ∈ ws then .ok (.d .non) (ρ1.set i (.m ((ws.erase w).map D.str))) else .bad | none => .bad)
    | _, _ => .bad)
  | _ => .bad
end Lq
namespace Lq
open PySem PySem.Spec PyProof.Rows L2
/-! ### own __getitem__, __eq__, __add__ of a class with slots -/
def ixTE (t : Nat) (F : List D → Res) (fa fb : Rho → R VD) : Rho → R VD := fun ρ => (fa ρ).bind fun v ρ1 => (fb ρ1).bind fun w ρ2 => match res v ρ2, res w ρ2 with
  | some (.obj t' fs), some (.int i) => if t' = t then (match F [.obj t' fs, .int i] with | .ok d => .ok (.d d) ρ2 | .err x => .err x ρ2 | .bad => .bad) else .bad
  | some x, some y => (match atD x y with | some d => .ok (.d d) ρ2 | none => .bad)
  | _, _ => .bad
end Lq
namespace Lq
open PySem PySem.Spec PyProof.Rows L2
/-! ### sorted(xs), xs a list of tuples of texts -/
/-! .. over data -/
end Lq
namespace Lq
open PySem PySem.Spec PyProof.Rows L2
/-! ### tuple(text) -/
def signs (z : Str) : List V := z.cps.toList.map fun c => V.str ⟨#[c]⟩
theorem vals_signs {z : Str} {acc : Array Value} (h : ItemsOf (SignAt z) acc z.cps.size) : Vals (signs z) acc.toList := by
  have go : ∀ (l : List Nat) (us : List Value), l.length = us.length → (∀ (i : Nat) (c : Nat), l[i]? = some c → ∃ t, us[i]? = some (Value.str ⟨#[c]⟩ t)) → Vals (l.map fun c => V.str ⟨#[c]⟩) us := by
    intro l
    induction l with
    | nil => intro us hl _; cases us with | nil => exact .nil | cons _ _ => simp at hl
    | cons c l ih =>
      intro us hl h
      cases us with
      | nil => simp at hl
      | cons u us =>
        obtain ⟨t, ht⟩ := h 0 c rfl
        simp at ht
        subst ht
        exact .cons ⟨t, rfl⟩ (ih us (by simpa using hl) fun i c' hc => by simpa using h (i + 1) c' (by simpa using hc))
  refine go _ _ (by simp [h.1]) fun i c hc => ?_
  have hi : i < z.cps.size := by have := (List.getElem?_eq_some_iff.mp hc).1; simpa using this
  have hi2 : i < acc.size := by rw [h.1]; exact hi
  obtain ⟨c', u, h1, h2⟩ := h.2 i acc[i] (by simp [hi2])
  have : c' = c := by
    rw [Array.getElem?_toList] at hc
    rw [hc] at h1; exact (Option.some.inj h1).symm
  subst this
  exact ⟨u, by rw [Array.getElem?_toList]; simp [hi2, h2]⟩
def rTupA (K : PySem.W.Frag) : List V → Hp → VK → Prop := fun xs H Q => (∃ p ys, xs = [.ref p] ∧ ((SqL K H p ys ∧ ∀ l, H l = none → Q (.ref l) (upd H l (.tup ys))) ∨ (SqT K H p ys ∧ Q (.ref p) H))) ∨ (∃ z : Str, xs = [.str z] ∧ z.length ≤ sizeLine ∧ ∀ l, H l = none → Q (.ref l) (upd H l (.tup (signs z))))
theorem call_tupleA {X : Cx} (hc : X.calm = true) : CallR X (.type "tuple") (rTupA X.K) := by
  intro pins s σ H xs us Q I r h
  rcases h with h | ⟨z, rfl, hz, q⟩
  · exact call_tuple_of pins s σ H xs us Q I r h
  · obtain ⟨u, rfl, ru⟩ := vals1 r
    obtain ⟨t, rfl⟩ := ru
    refine call_tuple_str (I.ok.hd hc) z t (fun h' tk acc hk ha => ?_) hz
    have I1 : Inv X pins σ H { s with heap := h', toks := tk } := I.kept (t' := tk) hk
    have rv := vals_signs ha
    have I2 : Inv X pins σ (upd H h'.objs.size (.tup (signs z))) { s with heap := h'.push { cls := .type "tuple", data := .seq acc }, toks := tk } :=
      I1.laid (t' := tk) (fun b o e => Heap.get?_push_of_some _ e) (Nat.le_refl _) (show ObjOk X.prog X.w _ _ _ (.tup (signs z)) from ⟨by unfold signs; rw [List.length_map, Array.length_toList]; exact hz, acc.toList, rv, by simpa using IsTup.new h' acc⟩)
    exact ⟨.ref h'.objs.size, _, I2, rfl, q _ (I1.hok.fresh (Nat.le_refl _))⟩
def tupleTD : List D → Option D
  | [.str z] => if fits z.length then some (.tup (chars z)) else none
  | xs => tupleD xs
theorem chars_rps {K : PySem.W.Frag} {T : Tb} {S : Hp} (z : Str) : Rps K T S (chars z) (signs z) := by
  unfold chars signs
  have : ∀ l : List Nat, Rps K T S (l.map fun c => D.str ⟨#[c]⟩) (l.map fun c => V.str ⟨#[c]⟩) := fun l => by
    induction l with
    | nil => exact rfl
    | cons c l ih => exact ⟨_, _, rfl, rfl, ih⟩
  exact this _
theorem p_tupleT {K : PySem.W.Frag} {T : Tb} : PrimN K T (rTupA K) tupleTD := fun S H xs ds d Q e h hg g => by
  unfold tupleTD at hg
  split at hg
  · rename_i z
    split at hg
    · rename_i hf
      cases hg
      obtain ⟨u, rfl, hu⟩ := h.one
      obtain rfl := hu.str
      exact .inr ⟨z, rfl, fits_line hf, fun l hl => g.newT e (chars_rps z) l hl⟩
    · cases hg
  · exact .inl (p_tuple S H xs _ d Q e h hg g)
/-! ### x = y, y a list of its own slot: it is not changed any more -/
def mvS (i j : Nat) : Rho → O := fun ρ => match ρ[j]? with
  | some (.m xs) => .nx ((ρ.set j (.d (.lst xs))).set i (.d (.lst xs)))
  | _ => asgS i (nameE j) ρ
end Lq
namespace Lq
open PySem PySem.Spec PyProof.Rows L2
/-! ### C.m(e, ..), m a staticmethod of the class C -/
end Lq
namespace Lq
open PySem PySem.Spec PyProof.Rows L2
/-! ### own len(x), x + y; isinstance(x, C) -/
end Lq
namespace Lq
open PySem
/-! ### mirrors evaluated step by step -/
section
variable {ρ ρ1 ρ2 ρ3 : Rho} {fa fb fo : Rho → R VD} {fs : Rho → R (List VD)} {ff fg : Rho → R (List D)} {ft fu : Rho → R Bool} {v w : VD} {vs ws : List VD} {x y d : D} {xs ys ds : List D} {a b : Bool} {i j : Nat}
theorem ev_name (h : ρ[i]? = some (.d x)) : nameE i ρ = .ok (.d x) ρ := by simp only [nameE, h]
theorem ev_nameM (h : ρ[i]? = some (.m xs)) : nameE i ρ = .ok (.sl i) ρ := by simp only [nameE, h]
theorem ev_nameB {ns : List Int} (h : ρ[i]? = some (.b ns)) : nameE i ρ = .ok (.sl i) ρ := by simp only [nameE, h]
theorem ev_const : constE d ρ = .ok (.d d) ρ := rfl
theorem ev_op1 {g : D → Option D} (h1 : fa ρ = .ok v ρ1) (r1 : res v ρ1 = some x) (hg : g x = some d) : op1E g fa ρ = .ok (.d d) ρ1 := by simp only [op1E, h1, R.bind, lift1, r1, hg]
theorem ev_op2 {g : D → D → Option D} (h1 : fa ρ = .ok v ρ1) (h2 : fb ρ1 = .ok w ρ2) (r1 : res v ρ2 = some x) (r2 : res w ρ2 = some y) (hg : g x y = some d) : op2E g fa fb ρ = .ok (.d d) ρ2 := by simp only [op2E, h1, h2, R.bind, lift2, r1, r2, hg]
theorem ev_opN {g : List D → Option D} (h1 : fs ρ = .ok vs ρ1) (r1 : resAll vs ρ1 = some xs) (hg : g xs = some d) : opNE g fs ρ = .ok (.d d) ρ1 := by simp only [opNE, h1, R.bind, liftN, r1, hg]
theorem ev_opNF {g : List D → Option (List D)} (h1 : fs ρ = .ok vs ρ1) (r1 : resAll vs ρ1 = some xs) (hg : g xs = some ds) : opNF g fs ρ = .ok ds ρ1 := by simp only [opNF, h1, R.bind, r1, hg]
theorem ev_op2F {g : D → D → Option (List D)} (h1 : fa ρ = .ok v ρ1) (h2 : fb ρ1 = .ok w ρ2) (r1 : res v ρ2 = some x) (r2 : res w ρ2 = some y) (hg : g x y = some ds) : op2F g fa fb ρ = .ok ds ρ2 := by simp only [op2F, h1, h2, R.bind, r1, r2, hg]
theorem ev_nilA : nilA ρ = .ok [] ρ := rfl
theorem ev_consA (h1 : fa ρ = .ok v ρ1) (h2 : fs ρ1 = .ok vs ρ2) : consA fa fs ρ = .ok (v :: vs) ρ2 := by simp only [consA, h1, h2, R.bind]
theorem ev_starA (h1 : fa ρ = .ok v ρ1) (r1 : res v ρ1 = some x) (hx : x.items? = some xs) (h2 : fs ρ1 = .ok vs ρ2) : starA fa fs ρ = .ok (xs.map VD.d ++ vs) ρ2 := by simp only [starA, h1, r1, hx, h2, R.bind, Option.bind]
theorem ev_dfA : dfA d ρ = .ok [.d d] ρ := rfl
theorem ev_permA {n : Nat} {pm : List Nat} (h1 : fs ρ = .ok vs ρ1) (hn : vs.length = n) : permA n pm fs ρ = .ok (permL pm vs) ρ1 := by simp only [permA, h1, R.bind, hn, if_true]
theorem ev_frz (h : ff ρ = .ok ds ρ1) : frzE ff ρ = .ok (.d (.lst ds)) ρ1 := by simp only [frzE, h, R.bind]
theorem ev_tup (h : fs ρ = .ok vs ρ1) (hd : datAll vs = some ds) (hf : ds.length ≤ 1000000) : tupE fs ρ = .ok (.d (.tup ds)) ρ1 := by simp only [tupE, h, R.bind, hd, fits, decide_eq_true hf, if_true]
theorem ev_lst (h : fs ρ = .ok vs ρ1) (hd : datAll vs = some ds) (hf : ds.length ≤ 1000000) : lstF fs ρ = .ok ds ρ1 := by simp only [lstF, h, R.bind, hd, fits, decide_eq_true hf, if_true]
theorem ev_ifF1 (h : ft ρ = .ok b ρ1) (hb : b = true) (h2 : ff ρ1 = .ok ds ρ2) : ifF ft ff fg ρ = .ok ds ρ2 := by simp only [ifF, h, R.bind, hb, if_true, h2]
theorem ev_ifF2 (h : ft ρ = .ok b ρ1) (hb : b = false) (h2 : fg ρ1 = .ok ds ρ2) : ifF ft ff fg ρ = .ok ds ρ2 := by simp [ifF, h, R.bind, hb, h2]
theorem ev_call {F : List D → Res} (h : fs ρ = .ok vs ρ1) (r : resAll vs ρ1 = some ds) (hF : F ds = .ok d) (hs : (slotted vs && !d.noL) = false) : callE F fs ρ = .ok (.d d) ρ1 := by simp [callE, h, R.bind, r, hF, hs]
theorem ev_callX {F : List D → Res} {e : Xn} (h : fs ρ = .ok vs ρ1) (r : resAll vs ρ1 = some ds) (hF : F ds = .err e) (hs : (slotted vs && !(noLs e.fs)) = false) : callE F fs ρ = .err e ρ1 := by simp [callE, h, R.bind, r, hF, hs]
theorem ev_callB {F : List Int → List D → Option (D × List Int)} {ns ns' : List Int} (h : fs ρ = .ok (.sl i :: ws) ρ1) (hb : ρ1[i]? = some (.b ns)) (hd : datAll ws = some ds) (hF : F ns ds = some (d, ns')) (ho : onlyB i ρ1 = true) (hn : ρ1.set i (.b ns') = ρ2) : callBE F fs ρ = .ok (.d d) ρ2 := by simp only [callBE, h, R.bind, hb, hd, ho, hF, if_true, hn]
theorem ev_app {xs0 : List D} (h0 : ρ[i]? = some (.m xs0)) (h : fs ρ = .ok [.d y] ρ1) (h1 : ρ1[i]? = some (.m xs)) (hf : xs.length + 1 ≤ 1000000) (hn : ρ1.set i (.m (xs ++ [y])) = ρ2) : appE i fs ρ = .ok (.d .non) ρ2 := by simp only [appE, h0, h, R.bind, h1, fits, decide_eq_true hf, if_true, hn]
theorem ev_ext {xs0 : List D} (h0 : ρ[i]? = some (.m xs0)) (h : fs ρ = .ok [.d (.lst ys)] ρ1) (h1 : ρ1[i]? = some (.m xs)) (hf : xs.length + ys.length ≤ 1000000) (hn : ρ1.set i (.m (xs ++ ys)) = ρ2) : extE i fs ρ = .ok (.d .non) ρ2 := by simp only [extE, h0, h, R.bind, h1, fits, decide_eq_true hf, if_true, hn]
theorem ev_pop {xs0 : List D} {k : Nat} (h0 : ρ[i]? = some (.m xs0)) (h : fs ρ = .ok [.d (.int k)] ρ1) (h1 : ρ1[i]? = some (.m xs)) (hk : k < 1000000) (hx : xs[k]? = some y) (hn : ρ1.set i (.m (xs.eraseIdx k)) = ρ2) : popE i fs ρ = .ok (.d y) ρ2 := by
  simp [popE, h0, h, R.bind, h1, hx, hn, show (k : Int) < 1000000 by omega]
theorem ev_rem {xs0 : List D} {wl : List Str} {z : Str} (h0 : ρ[i]? = some (.m xs0)) (h : fs ρ = .ok [.d (.str z)] ρ1) (h1 : ρ1[i]? = some (.m xs)) (hs : asStrs xs = some wl) (hz : z ∈ wl) (hn : ρ1.set i (.m ((wl.erase z).map D.str)) = ρ2) : remE i fs ρ = .ok (.d .non) ρ2 := by
  simp only [remE, h0, h, R.bind, h1, hs, hz, if_true, hn]
theorem ev_noPart : noPart ρ = .ok none ρ := rfl
theorem ev_aPart {k : Int} (h : fa ρ = .ok (.d (.int k)) ρ1) : aPart fa ρ = .ok (some k) ρ1 := by simp only [aPart, h, R.bind]
theorem ev_sl {fl fh : Rho → R (Option Int)} {l h : Option Int} (h1 : fa ρ = .ok v ρ1) (h2 : fl ρ1 = .ok l ρ2) (h3 : fh ρ2 = .ok h ρ3) (r : res v ρ3 = some x) (hc : cutD x l h = some d) : slE fa fl fh ρ = .ok (.d d) ρ3 := by simp only [slE, h1, h2, h3, R.bind, r, hc]
theorem ev_ixT {F : List D → Res} {t : Nat} {fl : List D} {k : Int} (h1 : fa ρ = .ok v ρ1) (h2 : fb ρ1 = .ok w ρ2) (r1 : res v ρ2 = some (.obj t fl)) (r2 : res w ρ2 = some (.int k)) (hF : F [.obj t fl, .int k] = .ok d) : ixTE t F fa fb ρ = .ok (.d d) ρ2 := by simp only [ixTE, h1, h2, R.bind, r1, r2, if_true, hF]
/-! tests -/
theorem ev_val (h : fa ρ = .ok (.d (.bl b)) ρ1) : valT fa ρ = .ok b ρ1 := by simp only [valT, h, R.bind]
theorem ev_notT (h : ft ρ = .ok b ρ1) : notT ft ρ = .ok (!b) ρ1 := by simp only [notT, h, R.bind]
theorem ev_and1 (h : ft ρ = .ok b ρ1) (hb : b = false) : andT ft fu ρ = .ok false ρ1 := by simp [andT, h, R.bind, hb]
theorem ev_and2 (h : ft ρ = .ok b ρ1) (hb : b = true) (h2 : fu ρ1 = .ok a ρ2) : andT ft fu ρ = .ok a ρ2 := by simp [andT, h, R.bind, hb, h2]
theorem ev_and (h : ft ρ = .ok b ρ1) (h2 : b = true → fu ρ1 = .ok a ρ1) : andT ft fu ρ = .ok (b && a) ρ1 := by cases b <;> simp [andT, h, R.bind, h2]
theorem ev_or1 (h : ft ρ = .ok b ρ1) (hb : b = true) : orT ft fu ρ = .ok true ρ1 := by simp [orT, h, R.bind, hb]
theorem ev_or2 (h : ft ρ = .ok b ρ1) (hb : b = false) (h2 : fu ρ1 = .ok a ρ2) : orT ft fu ρ = .ok a ρ2 := by simp [orT, h, R.bind, hb, h2]
theorem ev_or (h : ft ρ = .ok b ρ1) (h2 : b = false → fu ρ1 = .ok a ρ1) : orT ft fu ρ = .ok (b || a) ρ1 := by cases b <;> simp [orT, h, R.bind, h2]
theorem ev_andE (h : fa ρ = .ok (.d (.bl b)) ρ1) (h2 : b = true → fb ρ1 = .ok (.d (.bl a)) ρ1) : andE fa fb ρ = .ok (.d (.bl (b && a))) ρ1 := by cases b <;> simp [andE, h, R.bind, h2]
theorem ev_orE (h : fa ρ = .ok (.d (.bl b)) ρ1) (h2 : b = false → fb ρ1 = .ok (.d (.bl a)) ρ1) : orE fa fb ρ = .ok (.d (.bl (b || a))) ρ1 := by cases b <;> simp [orE, h, R.bind, h2]
theorem ev_notE (h : fa ρ = .ok (.d (.bl b)) ρ1) : notE fa ρ = .ok (.d (.bl (!b))) ρ1 := by simp only [notE, h, R.bind]
theorem ev_ifE1 (h : ft ρ = .ok b ρ1) (hb : b = true) (h2 : fa ρ1 = .ok v ρ2) : ifE ft fa fb ρ = .ok v ρ2 := by simp [ifE, h, R.bind, hb, h2]
theorem ev_ifE2 (h : ft ρ = .ok b ρ1) (hb : b = false) (h2 : fb ρ1 = .ok v ρ2) : ifE ft fa fb ρ = .ok v ρ2 := by simp [ifE, h, R.bind, hb, h2]
theorem ev_ifE (h : ft ρ = .ok b ρ1) (h1 : b = true → fa ρ1 = .ok (.d x) ρ1) (h2 : b = false → fb ρ1 = .ok (.d y) ρ1) : ifE ft fa fb ρ = .ok (.d (if b then x else y)) ρ1 := by cases b <;> simp [ifE, h, R.bind, h1, h2]
/-! statements -/
variable {g h : Rho → O} {o o1 o2 : O}
theorem ev_seqN (h1 : g ρ = .nx ρ1) (hn : ρ1 = ρ2) (h2 : h ρ2 = o) : seqS g h ρ = o := by simp only [seqS, h1, hn, h2]
theorem ev_seqR (h1 : g ρ = .rt v ρ1) : seqS g h ρ = .rt v ρ1 := by simp only [seqS, h1]
theorem ev_seqX {e : Xn} (h1 : g ρ = .err e ρ1) : seqS g h ρ = .err e ρ1 := by simp only [seqS, h1]
theorem ev_next : nextS ρ = .nx ρ := rfl
theorem ev_asg (h : fa ρ = .ok (.d x) ρ1) : asgS i fa ρ = .nx (ρ1.set i (.d x)) := by simp only [asgS, h, R.thnO]
theorem ev_asgX {e : Xn} (h : fa ρ = .err e ρ1) : asgS i fa ρ = .err e ρ1 := by simp only [asgS, h, R.thnO]
theorem ev_asgM (h : ff ρ = .ok ds ρ1) : asgM i ff ρ = .nx (ρ1.set i (.m ds)) := by simp only [asgM, h, R.thnO]
theorem ev_ret (h : fa ρ = .ok v ρ1) : retS fa ρ = .rt v ρ1 := by simp only [retS, h, R.thnO]
theorem ev_retF (h : ff ρ = .ok ds ρ1) : retF ff ρ = .rf ds ρ1 := by simp only [retF, h, R.thnO]
theorem ev_drop (h : fa ρ = .ok v ρ1) : dropS fa ρ = .nx ρ1 := by simp only [dropS, h, R.thnO]
theorem ev_ifS1 (h1 : ft ρ = .ok b ρ1) (hb : b = true) (h2 : g ρ1 = o) : ifS ft g h ρ = o := by simp [ifS, h1, R.thnO, hb, h2]
theorem ev_ifS2 (h1 : ft ρ = .ok b ρ1) (hb : b = false) (h2 : h ρ1 = o) : ifS ft g h ρ = o := by simp [ifS, h1, R.thnO, hb, h2]
theorem ev_put {k : Int} (h1 : fa ρ = .ok (.d y) ρ1) (hm : ρ1[i]? = some (.m ys)) (h2 : fb ρ1 = .ok (.d (.int k)) ρ2) (hx : ρ2[i]? = some (.m xs)) (hk : L2.ixN xs.length k = some j) : putItem i fa fb ρ = .nx (ρ2.set i (.m (xs.set j y))) := by
  simp only [putItem, h1, R.thnO, hm, isMB, if_true, h2, putS1, hx, hk]
theorem ev_aug {f : Int → Int → Int} {m n : Int} (h0 : ρ[i]? = some (.d (.int m))) (h : fa ρ = .ok (.d (.int n)) ρ1) : augS i f fa ρ = .nx (ρ1.set i (.d (.int (f m n)))) := by simp only [augS, h0, h, R.thnO]
theorem ev_raise {t : Nat} (h : fs ρ = .ok [.d d] ρ1) : raiseS t fs ρ = .err ⟨t, [d]⟩ ρ1 := by simp only [raiseS, h, R.thnO, datAll]
theorem ev_raise0 {t : Nat} : raise0S t ρ = .err ⟨t, [.tup []]⟩ ρ := rfl
theorem ev_try {hh : Xn → Rho → O} (h1 : g ρ = .nx ρ1) : tryS g hh ρ = .nx ρ1 := by simp only [tryS, h1]
theorem ev_tryX {hh : Xn → Rho → O} {e : Xn} (h1 : g ρ = .err e ρ1) (h2 : hh e ρ1 = o) : tryS g hh ρ = o := by simp only [tryS, h1, h2]
theorem ev_for {gd : D → Rho → Option Rho} (h1 : ff ρ = .ok ds ρ1) (h2 : loopS (turnS gd g) ds ρ1 = o) : forS ff gd g ρ = o := by simp only [forS, h1, R.thnO, h2]
theorem ev_turn {gd : D → Rho → Option Rho} (h1 : gd d ρ = some ρ1) (h2 : g ρ1 = o) : turnS gd g d ρ = o := by simp only [turnS, h1, h2]
/-! several at once -/
theorem ev_nilM : nilM ρ = .ok [] ρ := rfl
theorem ev_consMd {fm : Rho → R (List MV)} {ms : List MV} (h : fa ρ = .ok (.d x) ρ1) (h2 : fm ρ1 = .ok ms ρ2) : consMd fa fm ρ = .ok (.d x :: ms) ρ2 := by simp only [consMd, h, h2, R.bind]
theorem ev_consMf {fm : Rho → R (List MV)} {ms : List MV} (h : ff ρ = .ok ds ρ1) (h2 : fm ρ1 = .ok ms ρ2) : consMf' ff fm ρ = .ok (.f ds :: ms) ρ2 := by simp only [consMf', h, h2, R.bind, noErr]
theorem ev_par {is : List Nat} {fm : Rho → R (List MV)} {ms : List MV} (h : fm ρ = .ok ms ρ1) (hl : is.length = ms.length) : parS is fm ρ = .nx (setsR ρ1 is ms) := by simp only [parS, h, R.thnO, hl, if_true]
/-! where a loop goes -/
theorem ev_seqI (h : fa ρ = .ok (.d x) ρ1) (hx : itemsOf x = some ds) : seqI fa ρ = .ok ds ρ1 := by simp only [seqI, h, R.bind, hx]
theorem ev_rng1 {n : Nat} (h : fs ρ = .ok [.d (.int n)] ρ1) (hn : n ≤ 1000000) : rngI1 fs ρ = .ok (rng 0 n) ρ1 := by
  simp [rngI1, h, R.bind, okR_small (i := (n : Int)) (by omega) (by omega)]
/-! defs -/
theorem ev_runF {a n : Nat} {f : Rho → O} (ρ0 : Rho) (h : ∃ ρ, f ρ0 = .rt (.d x) ρ) (hl : ds.length = a := by rfl) (hs : startR n ds = ρ0 := by rfl) : runF a n f ds = .ok x := by obtain ⟨ρ, h⟩ := h; simp only [runF, hl, if_true, hs, h]
theorem ev_runFx {a n : Nat} {f : Rho → O} {e : Xn} (ρ0 : Rho) (h : ∃ ρ, f ρ0 = .err e ρ) (hl : ds.length = a := by rfl) (hs : startR n ds = ρ0 := by rfl) : runF a n f ds = .err e := by obtain ⟨ρ, h⟩ := h; simp only [runF, hl, if_true, hs, h]
theorem ev_runB {a n : Nat} {f : Rho → O} {ns ns' : List Int} (ρ0 : Rho) (h : ∃ ρ, f ρ0 = .rt (.d x) ρ ∧ ρ[0]? = some (.b ns')) (hl : ds.length = a := by rfl) (hs : .b ns :: startR n ds = ρ0 := by rfl) : runB a n f ns ds = some (x, ns') := by obtain ⟨ρ, h, hb⟩ := h; simp only [runB, hl, if_true, hs, h, boxAt, hb]
theorem nd_t {p : Prop} [Decidable p] (h : ¬ p) : (!decide p) = true := by rw [decide_eq_false h]; rfl
theorem nd_f {p : Prop} [Decidable p] (h : p) : (!decide p) = false := by rw [decide_eq_true h]; rfl
theorem nb_t {q : Bool} (h : q = false) : (!q) = true := by rw [h]; rfl
theorem nb_f {q : Bool} (h : q = true) : (!q) = false := by rw [h]; rfl
/-! data -/
theorem dv_addL (h : xs.length + ys.length ≤ 1000000) : addD (.lst xs) (.lst ys) = some (.lst (xs ++ ys)) := by simp only [addD, fits, decide_eq_true h, if_true]
theorem dv_addT (h : xs.length + ys.length ≤ 1000000) : addD (.tup xs) (.tup ys) = some (.tup (xs ++ ys)) := by simp only [addD, fits, decide_eq_true h, if_true]
theorem dv_cat (h : xs.length + ys.length ≤ 1000000) : catF (.lst xs) (.lst ys) = some (xs ++ ys) := by simp only [catF, fits, decide_eq_true h, if_true]
theorem dv_eqI (m n : Int) : eqD (.int m) (.int n) = some (.bl (decide (m = n))) := by show some (D.bl (m == n)) = _; rfl
theorem dv_neI (m n : Int) : neD (.int m) (.int n) = some (.bl (!decide (m = n))) := by show some (D.bl (!(m == n))) = _; rfl
theorem dv_eqS (m n : Str) : eqD (.str m) (.str n) = some (.bl (decide (m = n))) := by show some (D.bl (m == n)) = _; rfl
theorem dv_neS (m n : Str) : neD (.str m) (.str n) = some (.bl (!decide (m = n))) := by show some (D.bl (!(m == n))) = _; rfl
theorem dv_atL (h : xs[i]? = some y) : atD (.lst xs) (.int (i : Nat)) = some y := by
  have hi := (List.getElem?_eq_some_iff.1 h).1
  simp only [atD, L2.atI, L2.ixN]
  rw [if_pos (by omega), if_pos (by omega)]
  simpa using h
theorem datAll_ds : ∀ xs : List D, datAll (xs.map VD.d) = some xs
  | [] => rfl
  | x :: xs => by rw [List.map_cons, datAll, datAll_ds xs]
theorem datAll_dsA : ∀ (xs : List D) (vs : List VD) (ys : List D), datAll vs = some ys → datAll (xs.map VD.d ++ vs) = some (xs ++ ys)
  | [], vs, ys, h => h
  | x :: xs, vs, ys, h => by rw [List.map_cons, List.cons_append, datAll, datAll_dsA xs vs ys h]; rfl
end
end Lq
namespace Lq
open PySem PySem.Spec PyProof.Rows L2
/-! ### list(range(..)) -/
def smallR (n : Nat) : Bool := decide (n ≤ 1000000)
def lrgF1 (fa : Rho → R VD) : Rho → R (List D) := fun ρ => (fa ρ).bind fun v ρ1 => match v with
  | .d (.int n) => if okR n && smallR n.toNat then .ok (rng 0 n.toNat) ρ1 else .bad
  | _ => .bad
def lrgF2 (fa fb : Rho → R VD) : Rho → R (List D) := fun ρ => (fa ρ).bind fun v ρ1 => match v with
  | .d (.int m) => (fb ρ1).bind fun w ρ2 => (match w with
    | .d (.int n) => if okR m && (okR n && smallR (n - m).toNat) then .ok (rng m (n - m).toNat) ρ2 else .bad
    | _ => .bad)
  | _ => .bad
section
variable {ρ ρ1 ρ2 : Rho} {fa fb : Rho → R VD}
theorem ev_lrg1 {n : Nat} (h : fa ρ = .ok (.d (.int n)) ρ1) (hn : n ≤ 1000000) : lrgF1 fa ρ = .ok (rng 0 n) ρ1 := by
  have : okR (n : Int) = true := okR_small (by omega) (by omega)
  simp [lrgF1, h, R.bind, this, smallR, hn]
theorem ev_lrg2 {m n : Int} (h : fa ρ = .ok (.d (.int m)) ρ1) (h2 : fb ρ1 = .ok (.d (.int n)) ρ2) (hm : okR m = true) (hn : okR n = true) (hs : (n - m).toNat ≤ 1000000) : lrgF2 fa fb ρ = .ok (rng m (n - m).toNat) ρ2 := by
  simp [lrgF2, h, h2, R.bind, hm, hn, smallR, hs]
end
open PySem.W in
/-- a built-in class -/
theorem kit_ty {K : PySem.W.Frag} {C : Addr} {x : String} {b : Bool} (hx : kitMeta x = true) (h : subIn K (.ref C) (.type x) = some b) : kitOne K (.ref C) (.type x) = some b := by
  unfold kitOne
  rw [if_neg (by intro e; cases eq_of_beq e)]
  show (if kitMeta x = true then subIn K (.ref C) (.type x) else none) = some b
  rw [if_pos hx]
  exact h
end Lq
namespace Lq
open PySem PySem.Spec PyProof.Rows L2
/-! ### // by any positive divisor below 2 ^ 9000 -/
/-! ### * of great ints -/
end Lq
namespace Lq
open PySem PySem.Spec PyProof.Rows L2
/-! ### own errors as values: C(e), C(f = e), C() -/
/-! ### the error made is an object like others -/
/-! ### over plain data -/
def mkE (t : Nat) (fs : Rho → R (List VD)) : Rho → R VD := fun ρ => (fs ρ).bind fun vs ρ1 => match datAll vs with
  | some [d] => .ok (.d (.obj t [d])) ρ1
  | _ => .bad
def mkE0 (t : Nat) : Rho → R VD := fun ρ => .ok (.d (.obj t [.tup []])) ρ
section
variable {ρ ρ1 : Rho} {fs : Rho → R (List VD)} {d : D}
theorem ev_mk {t : Nat} (h : fs ρ = .ok [.d d] ρ1) : mkE t fs ρ = .ok (.d (.obj t [d])) ρ1 := by simp only [mkE, h, R.bind, datAll]
theorem ev_mk0 {t : Nat} : mkE0 t ρ = .ok (.d (.obj t [.tup []])) ρ := rfl
end
end Lq
namespace Lq
open PySem PySem.Spec PyProof.Rows L2
/-! ### clauses of several classes: except (A, B, C) as n -/
section
variable {X : Cx} {pins : List (Addr × Obj)} {σ : L2.St} {H : Hp} {a : Addr} {cls : Value} {d : Option Addr} {B : Heap} {s0 s : Shared}
theorem Down.ty (w : Down X pins σ H a cls d B s0 s) : PySem.W.Looks (model X.prog X.w) s.heap (typeOf (.ref a)) cls := by
  obtain ⟨oe, vs, e, z, _⟩ := w.obj
  exact fun A Q E s k q => wpAny_typeOf_ref (k _ _ e) (z.1.symm ▸ q)
end
end Lq
namespace Lq
open PySem PySem.Spec PyProof.Rows L2
/-! ### a box made anew and a name behind it: f(box(..), y) -/
def callNewN (F : List Int → List D → Option (D × List Int)) (f : Rho → R (List D)) (i : Nat) : Rho → R VD := fun ρ => (f ρ).bind fun ds ρ1 => match allOf D.int? ds, ρ1[i]? with
  | some ns, some (.d x) => (match F ns [x] with | some (d, _) => .ok (.d d) ρ1 | none => .bad)
  | _, _ => .bad
/-! ### isinstance of an error or of None -/
def isErrND (ex : List (Nat × Bool)) : D → Option D
  | .non => some (.bl false)
  | d => isErrD ex d
end Lq
namespace Lq
open PySem PySem.Spec PyProof.Rows L2
/-! ### a box that is a name's own list: f(x, ..) changes it -/
def callME (F : List Int → List D → Option (D × List Int)) (fs : Rho → R (List VD)) : Rho → R VD := fun ρ => (fs ρ).bind fun vs ρ1 => match vs with
  | .sl i :: ws => (match ρ1[i]?, datAll ws with
    | some (.m xs), some ds => (match allOf D.int? xs with
      | some ns => (match F ns ds with | some (d, ns') => .ok (.d d) (ρ1.set i (.m (ns'.map D.int))) | none => .bad)
      | none => .bad)
    | _, _ => .bad)
  | _ => .bad
/-! ### x is True, x is False -/
def isBD : D → D → Option D
  | .bl a, .bl b => some (.bl (a == b))
  | _, _ => none
end Lq
namespace Lq
open PySem PySem.Spec PyProof.Rows L2
/-! ### x != y by the class's own __eq__ -/
end Lq
namespace Lq
open PySem PySem.Spec PyProof.Rows L2
/-! ### in: data of any depth in a list of data -/
end Lq
namespace Lq
open PySem PySem.Spec PyProof.Rows L2
/-! ### tuple * 0, tuple * 1 -/
end Lq
namespace Lq
open PySem PySem.Spec PyProof.Rows L2
/-! ### list(zip(tuple, tuple)): the zip's own tuple is out from the first turn on -/
section
variable {prog : Program} {w : World} {A : Around} {E : Value → Shared → Prop} {s : Shared}
variable {zz TA TB ia ib la lb TT : Addr} {fl : Bool} {oT : Obj} {j : Nat} {us vs : Array Value} {u v : Value}
/-- the zip of two tuples at its j-th turn; its own tuple is not out yet, or is an object that stands -/
structure ZW (h : Heap) (zz TA TB ia ib la lb S : Addr) (us vs : Array Value) (j : Nat) : Prop where
  pa : IsPair h TA (.ref ia) (.ref ib)
  pb : ∃ a b, IsPair h TB a b
  ja : h.IsTupleIter ia la j
  jb : h.IsTupleIter ib lb j
  ta : h.IsTuple la us
  tb : h.IsTuple lb vs
  at_ : IsZip h zz TA TB .none ∨ ∃ T f o, IsZipHeld h zz TA TB T f ∧ h.get? T = some o ∧ T ≠ zz ∧ T ≠ TB ∧ T ≠ ia ∧ T ≠ ib ∧ T ≠ S
structure Far (zz TA TB ia ib la lb S : Addr) : Prop where
  ap : ZipApart zz TA TB ia ib la lb
  sz : zz ≠ S
  sa : TA ≠ S
  sb : TB ≠ S
  si : ia ≠ S
  sj : ib ≠ S
  sl : la ≠ S
  sm : lb ≠ S
theorem ZW.keep {h g : Heap} {S : Addr} (F : Far zz TA TB ia ib la lb S) (W : ZW h zz TA TB ia ib la lb S us vs j) (k : ∀ b o, b ≠ S → h.get? b = some o → g.get? b = some o) : ZW g zz TA TB ia ib la lb S us vs j where
  pa := k _ _ F.sa W.pa
  pb := by obtain ⟨a, b, e⟩ := W.pb; exact ⟨a, b, k _ _ F.sb e⟩
  ja := W.ja.at fun o e => k _ _ F.si e
  jb := W.jb.at fun o e => k _ _ F.sj e
  ta := W.ta.at fun o e => k _ _ F.sl e
  tb := W.tb.at fun o e => k _ _ F.sm e
  at_ := by
    rcases W.at_ with e | ⟨T, f, o, e, eo, r⟩
    · exact .inl (k _ _ F.sz e)
    · exact .inr ⟨T, f, o, k _ _ F.sz e, k _ _ r.2.2.2.2 eo, r⟩
end
/-- one tuple after another is laid -/
inductive Tups : Hp → List (List V) → List Addr → Hp → Prop where
  | nil {H : Hp} : Tups H [] [] H
  | cons {H H' : Hp} {p : Addr} {row : List V} {rows : List (List V)} {ps : List Addr} : H p = none → Tups (upd H p (.tup row)) rows ps H' → Tups H (row :: rows) (p :: ps) H'
section
variable {X : Cx} {pins : List (Addr × Obj)} {σ : L2.St}
theorem Tups.free : ∀ {rows : List (List V)} {ps : List Addr} {H H' : Hp}, Tups H rows ps H' → ∀ q, q ∉ ps → H q = none → H' q = none
  | _, _, _, _, .nil, q, _, h => h
  | _, _, _, _, .cons hp t, q, n, h => by
    rw [List.mem_cons, not_or] at n
    exact t.free q n.2 (by rw [upd_ne n.1]; exact h)
end
/-! ### the layer's rule -/
def lzipF (fs : Rho → R (List VD)) : Rho → R (List D) := fun ρ => (fs ρ).bind fun vs ρ1 => match vs with
  | [.d (.tup xs), .d (.tup ys)] => if decide (xs.length ≤ 1000000) then .ok (zipD xs ys) ρ1 else .bad
  | _ => .bad
section
variable {X : Cx} {T : Tb} {W : WX} {e e2 : Expr} {fs : Rho → R (List VD)} {p p2 pos pos2 : Pos}
theorem ev_lzip {fs : Rho → R (List VD)} {ρ ρ1 : Rho} {xs ys : List D} (h : fs ρ = .ok [.d (.tup xs), .d (.tup ys)] ρ1) (hl : xs.length ≤ 1000000) : lzipF fs ρ = .ok (zipD xs ys) ρ1 := by simp only [lzipF, h, R.bind, decide_eq_true hl, if_true]
end
end Lq
namespace Lq
open PySem PySem.Spec PyProof.Rows L2
/-! ### methods of lists that change nothing: index, count; text.count; max and min of a list of numbers -/
def lstM (g : D → List D → Option D) (fo : Rho → R VD) (fs : Rho → R (List VD)) : Rho → R VD := fun ρ => (fo ρ).bind fun v ρ1 => match v with
  | .d (.lst l) => (fs ρ1).bind fun vs ρ2 => (match resAll vs ρ2 with | some xs => (match g (.lst l) xs with | some d => .ok (.d d) ρ2 | none => .bad) | none => .bad)
  | _ => .bad
section
variable {fo : Rho → R VD} {fs : Rho → R (List VD)} {ρ ρ1 ρ2 : Rho} {l xs : List D} {vs : List VD} {d : D}
theorem ev_lstM {g : D → List D → Option D} (h : fo ρ = .ok (.d (.lst l)) ρ1) (h2 : fs ρ1 = .ok vs ρ2) (r : resAll vs ρ2 = some xs) (hg : g (.lst l) xs = some d) : lstM g fo fs ρ = .ok (.d d) ρ2 := by simp only [lstM, h, h2, R.bind, r, hg]
theorem ev_strM {s : Str} {g : Str → List D → Option D} (h : fo ρ = .ok (.d (.str s)) ρ1) (h2 : fs ρ1 = .ok vs ρ2) (r : resAll vs ρ2 = some xs) (hg : g s xs = some d) : strM g fo fs ρ = .ok (.d d) ρ2 := by simp only [strM, h, h2, R.bind, r, hg]
end
end Lq
namespace Lq
open PySem PySem.Spec PyProof.Rows L2
/-! ### sets of tuples of texts: one table, searched and filled -/
def kh (P : Program) (w : World) (k : List Str) : Int := tupleKeyHash (strKind P w) k
def IsS (P : Program) (w : World) (h : Heap) (k : List Str) (b : Addr) : Prop := IsTupleKey (strKind P w) h k b
section
variable {P : Program} {w : World} {A : Around} {E : Value → Shared → Prop} {s : Shared}
/-- the set at a holds the tuples L, in the order of its table -/
structure SS (P : Program) (w : World) (h : Heap) (a : Addr) (L : List (Addr × List Str)) (es : Array (Int × Value)) (ep : Nat) (t : SetTable) : Prop where
  obj : ∃ o, h.get? a = some o ∧ o.ExactSet ∧ o.data = .set es ep t
  ent : es.toList = L.map fun p => (kh P w p.2, Value.ref p.1)
  tab : TabOk t (L.map fun p => kh P w p.2)
  dif : (L.map (·.2)).Nodup
  tps : ∀ p ∈ L, IsS P w h p.2 p.1
  led : w.params.followText "set-order" = true ∨ t.led = true
  room : L.length * 5 < t.mask * 3
  few : L.length < 64
variable {a : Addr} {L : List (Addr × List Str)} {es : Array (Int × Value)} {ep : Nat} {t : SetTable}
theorem SS.len (R : SS P w s.heap a L es ep t) : es.size = L.length := by rw [← Array.length_toList, R.ent, List.length_map]
theorem SS.here (R : SS P w s.heap a L es ep t) : ¬ t.gaveWay = true := by
  unfold SetTable.gaveWay
  rw [mask_odd R.tab.mok]; decide
/-- the probe's start, and its c-th step -/
def p0 (m : Nat) (h : Int) : SetTable.Probe := runAt m (SetTable.bits h % (m + 1)) (SetTable.bits h)
theorem IsS.keep {h g : Heap} {k : List Str} {b : Addr} (x : IsS P w h k b) (kk : ∀ c o, h.get? c = some o → g.get? c = some o) : IsS P w g k b := by
  obtain ⟨o', its, n, e1, r⟩ := x
  exact ⟨o', its, n, kk b o' e1, r⟩
theorem SS.keep {h g : Heap} (R : SS P w h a L es ep t) (ka : ∀ o, h.get? a = some o → g.get? a = some o) (kt : ∀ p ∈ L, IsS P w g p.2 p.1) : SS P w g a L es ep t := by
  obtain ⟨o, eo, r⟩ := R.obj
  exact ⟨⟨o, ka o eo, r⟩, R.ent, R.tab, R.dif, kt, R.led, R.room, R.few⟩
end
section
variable {P : Program} {w : World} {A : Around} {E : Value → Shared → Prop} {s : Shared}
def emptyT (w : World) : SetTable := .fresh 0 0 (!w.params.followText "set-order")
def emptyO (w : World) : Obj := { cls := .type "set", dict := none, data := .set #[] 0 (emptyT w) }
theorem SS.fresh {h : Heap} {a : Addr} (ho : h.get? a = some (emptyO w)) : SS P w h a [] #[] 0 (emptyT w) where
  obj := ⟨_, ho, ⟨rfl, rfl, rfl⟩, rfl⟩
  ent := rfl
  tab := ⟨List.Pairwise.nil, rfl, rfl, .inl rfl, fun x hx => (nomatch hx), fun i h j hi => (by simp at hi)⟩
  dif := List.nodup_nil
  tps := fun p hp => (nomatch hp)
  led := by
    show _ ∨ (!w.params.followText "set-order") = true
    cases w.params.followText "set-order"
    · exact .inr rfl
    · exact .inl rfl
  room := by show 0 * 5 < 7 * 3; decide
  few := by show 0 < 64; decide
end
end Lq
namespace Lq
open PySem PySem.Spec PyProof.Rows L2
/-! ### sorted(set(a list of tuples of texts)) -/
structure SetS0 (P : Program) (w : World) (h : Heap) (a : Addr) (L : List (Addr × List Str)) : Prop where
  ex : ∃ (es : Array (Int × Value)) (ep : Nat) (t : SetTable), (∃ o, h.get? a = some o ∧ o.ExactSet ∧ o.data = .set es ep t) ∧ es.toList = L.map (fun p => (kh P w p.2, Value.ref p.1)) ∧ TabOk t (L.map fun p => kh P w p.2) ∧ (L.map (·.2)).Nodup ∧
    (w.params.followText "set-order" = true ∨ t.led = true) ∧ L.length * 5 < t.mask * 3 ∧ L.length < 64
theorem SS.bare {P : Program} {w : World} {h : Heap} {a : Addr} {L : List (Addr × List Str)} {es : Array (Int × Value)} {ep : Nat} {t : SetTable} (R : SS P w h a L es ep t) : SetS0 P w h a L := ⟨es, ep, t, R.obj, R.ent, R.tab, R.dif, R.led, R.room, R.few⟩
end Lq
namespace Lq
open PySem PySem.Spec PyProof.Rows L2
/-! ### sorted(set(a list of tuples of texts)), over data -/
end Lq
namespace Lq
open PySem PySem.Spec PyProof.Rows L2
/-! ### sorted(text) -/
end Lq
namespace Lq
open PySem PySem.Spec PyProof.Rows L2
/-! ### enumerate(text) -/
/-! ### list(text) -/
end Lq
namespace Lq
open PySem PySem.Spec PyProof.Rows L2
/-! ### zip(text, list): its iterators by what they draw -/
/-! ### the walk over zip(text, list) -/
end Lq
namespace Lq
open PySem PySem.Spec PyProof.Rows L2
/-! ### a list shown with lists of the def's own in it: they are not changed any more -/
end Lq
namespace Lq
open PySem PySem.Spec PyProof.Rows L2
/-! ### defs as values -/
end Lq
namespace Lq
open PySem PySem.Spec PyProof.Rows L2
/-! ### zip(tuple, list) -/
/-! ### the walk over zip(tuple, list) -/
end Lq
namespace Lq
open PySem PySem.Spec PyProof.Rows L2
/-! ### dicts that are not changed: .obj 59 [k1, v1, k2, v2, ..], keys ints and texts -/
def kD : Key → D
  | .inl i => .int i
  | .inr s => .str s
def keyD : D → Option Key
  | .int i => some (.inl i)
  | .str s => some (.inr s)
  | _ => none
def flatD : List (Key × D) → List D
  | [] => []
  | p :: r => kD p.1 :: p.2 :: flatD r
def pairsD : List D → Option (List (Key × D))
  | [] => some []
  | [_] => none
  | k :: v :: r => match keyD k, pairsD r with
    | some a, some l => some ((a, v) :: l)
    | _, _ => none
theorem keyD_of {d : D} {k : Key} (h : keyD d = some k) : d = kD k := by
  cases d <;> simp [keyD] at h <;> subst h <;> rfl
section
variable {K : PySem.W.Frag} {T : Tb} {S S' H : Hp}
def DKV (K : PySem.W.Frag) (T : Tb) (S : Hp) : List (Key × D) → List (Key × V) → Prop := Paired fun (p : Key × D) (q : Key × V) => p.1 = q.1 ∧ Rp K T S p.2 q.2
theorem DKV.mono {l : List (Key × D)} {kvs : List (Key × V)} (e : Same S S') (h : DKV K T S l kvs) : DKV K T S' l kvs := Paired.mapP h fun _ _ z => ⟨z.1, Rp.mono e _ _ z.2⟩
theorem DKV.len {l : List (Key × D)} {kvs : List (Key × V)} (h : DKV K T S l kvs) : l.length = kvs.length := Paired.length h
theorem rp_key {k : Key} {v : V} (h : Rp K T S (kD k) v) : v = L2.kV k := by cases k <;> exact h
theorem key_rp (k : Key) : Rp K T S (kD k) (L2.kV k) := by cases k <;> rfl
theorem DKV.of : ∀ {fs : List D} {l : List (Key × D)} {kvs : List (Key × V)}, Rps K T S fs (flatKV kvs) → pairsD fs = some l → DKV K T S l kvs
  | [], l, kvs, r, h => by
    cases h
    cases kvs with
    | nil => exact .nil
    | cons p q => exact nomatch (show flatKV (p :: q) = [] from r)
  | [_], _, _, _, h => by cases h
  | k :: v :: fs, l, kvs, r, h => by
    rw [pairsD] at h
    split at h
    · rename_i a m q1 q2
      cases h
      obtain ⟨u, r1, e1, h1, u2, r2, e2, h2, h3⟩ := r
      cases kvs with
      | nil => cases e1
      | cons p q =>
        rw [flatKV] at e1
        cases e1
        cases e2
        rw [keyD_of q1] at h1
        exact .cons ⟨(L2.kV_inj (rp_key h1)).symm, h2⟩ (DKV.of h3 q2)
    · cases h
theorem DKV.flat : ∀ {l : List (Key × D)} {kvs : List (Key × V)}, DKV K T S l kvs → Rps K T S (flatD l) (flatKV kvs)
  | _, _, .nil => rfl
  | _, _, .cons (a := p) (b := q) h t => ⟨_, _, rfl, by rw [h.1]; exact key_rp _, _, _, rfl, h.2, DKV.flat t⟩
theorem _root_.L2.DGet.f {H : Hp} {a : Addr} {o : Obj} {kvs : List (Key × V)} {k : Key} (e : H a = some (.frz o (.dK kvs))) : DGet H a (L2.kV k) (valV kvs k) := .inl ⟨kvs, k, .inr ⟨o, e⟩, rfl, rfl⟩
end
/-! #### d[k], k in d, k not in d -/
/-! #### dict(a list of pairs) -/
/-! #### stepwise -/
end Lq
namespace Lq
open PySem PySem.Spec PyProof.Rows L2
/-! ### range(i, j, -1) -/
end Lq
namespace Lq
open PySem PySem.Spec PyProof.Rows L2
/-! ### tuples whose object is known: .obj 58 items -/
def co : D → D
  | .obj t xs => if isPt t then .tup xs else .obj t xs
  | d => d
section
variable {K : PySem.W.Frag} {T : Tb} {S H : Hp}
theorem pt_of {ds : List D} {v : V} (h : Rp K T S (.obj 58 ds) v) : ∃ a o vs, v = .ref a ∧ S a = some (.frz o (.tup vs)) ∧ o.dict = none ∧ Rps K T S ds vs := by
  obtain ⟨a, vs, rfl, ob, r⟩ := h
  rcases ob with ⟨z, _⟩ | ⟨z, _⟩ | ⟨z, _⟩ | ⟨z, _⟩ | ⟨_, o, h1, h2⟩
  · cases z
  · cases z
  · cases z
  · cases z
  · exact ⟨a, o, vs, rfl, h1, h2, r⟩
end
end Lq
namespace Lq
open PySem PySem.Spec PyProof.Rows L2
/-! ### x == [], x a list of anything -/
end Lq
/-! ### x in l, the first item of l equal to x by its class's own == -/
namespace PySem.SeqAt
open AutoSeq1 (wpAny_loadPart')
open MeetsSeq MeetsSeq2 MeetsSeq3 SeqRoads2
end PySem.SeqAt
namespace Lq
open PySem PySem.Spec PyProof.Rows L2
end Lq
namespace Lq
open PySem PySem.Spec PyProof.Rows L2
/-! ### l.count(x), the items data of any depth -/
/-! the same with the list of a slot -/
end Lq
namespace Lq
open PySem PySem.Spec PyProof.Rows L2
/-! ### the walk over zip(list, tuple) -/
end Lq
namespace Lq
open PySem PySem.Spec PyProof.Rows L2
/-! ### dicts walked: the keys, the values, the pairs -/
section
variable {K : PySem.W.Frag} {T : Tb} {S : Hp}
theorem DKV.at {k : Key} {d : D} {l : List (Key × D)} {kvs : List (Key × V)} (h : DKV K T S l kvs) {i : Nat} (hi : l[i]? = some (k, d)) : ∃ v, kvs[i]? = some (k, v) ∧ Rp K T S d v := by
  unfold DKV at h
  induction h generalizing i with
  | nil => cases hi
  | @cons p q ps qs h t ih =>
    cases i with
    | zero =>
      simp only [List.getElem?_cons_zero, Option.some.injEq] at hi ⊢
      subst hi
      exact ⟨q.2, by obtain ⟨q1, q2⟩ := q; obtain ⟨e, _⟩ := h; simp only at e; subst e; rfl, h.2⟩
    | succ i =>
      simp only [List.getElem?_cons_succ] at hi ⊢
      exact ih hi
end
end Lq
namespace Lq
open PySem PySem.Spec PyProof.Rows L2
/-! ### a text once and more -/
end Lq
namespace Lq
open PySem PySem.Spec PyProof.Rows L2
/-! ### text.index(text) where it is found -/
/-! ### a new list of two new lists, whose rows are changed one by one -/
def G3 (G : Hp) (a q0 q1 : Addr) (vs0 vs1 : List V) : Hp := upd (upd (upd G a (.lst [.ref q0, .ref q1])) q0 (.lst vs0)) q1 (.lst vs1)
structure Gr (G : Hp) (a q0 q1 : Addr) : Prop where
  ga : G a = none
  g0 : G q0 = none
  g1 : G q1 = none
  d0 : a ≠ q0
  d1 : a ≠ q1
  d2 : q0 ≠ q1
section
variable {K : PySem.W.Frag} {T : Tb} {W : WX} {β : Bt} {G S S' H : Hp} {σ : L2.St} {ρ : Rho}
/-- where the rows lie -/
def Gd (K : PySem.W.Frag) (T : Tb) (β : Bt) (G S : Hp) (σ : L2.St) (ρ : Rho) (H : Hp) (i : Nat) (xs0 xs1 : List D) : Prop :=
  ∃ a q0 q1 vs0 vs1, σ[i]? = some (some (.ref a)) ∧ Gr G a q0 q1 ∧ Rps K T S xs0 vs0 ∧ Rps K T S xs1 vs1 ∧ Ok K T β (G3 G a q0 q1 vs0 vs1) S σ ρ H
end
/-! statements that leave a name alone; statements beside the rows -/
abbrev Rw := List D × List D
end Lq
namespace Lq
open PySem PySem.Spec PyProof.Rows L2
section
variable {X : Cx} {T : Tb} {W : WX} {a b e e2 : Expr} {es : List Expr} {fa fb : Rho → R VD} {fs : Rho → R (List VD)} {pos : Pos} {st st0 st1 : Stmt} {sts : List Stmt} {i : Nat}
/-! targets that leave a name alone -/
/-! the loop beside the rows -/
theorem Gd.ext {K : PySem.W.Frag} {β : Bt} {G S S' H H' : Hp} {σ : L2.St} {ρ : Rho} {xs ys : List D} (h : Gd K T β G S σ ρ H i xs ys) (e : Ext T S H S' H') : Gd K T β G S' σ ρ H' i xs ys := by
  obtain ⟨a, q0, q1, vs0, vs1, hs, g, r0, r1, o⟩ := h
  exact ⟨a, q0, q1, vs0, vs1, hs, g, Rps.mono e.s _ _ r0, Rps.mono e.s _ _ r1, o.ext e⟩
def PostW (K : PySem.W.Frag) (T : Tb) (i : Nat) (β : Bt) (G S : Hp) (r : Option (Rho × Rw)) (De : Ends) : Prop := match r with
  | some q => ∀ S' σ' H', Same S S' → Gd K T β G S' σ' q.1 H' i q.2.1 q.2.2 → De.nx σ' H'
  | none => False
theorem PostW.mono {K : PySem.W.Frag} {β : Bt} {G S S' : Hp} {De : Ends} {r : Option (Rho × Rw)} (h : PostW K T i β G S r De) (e : Same S S') : PostW K T i β G S' r De := by
  cases r with
  | none => exact h
  | some q => exact fun S2 σ2 H2 e2 hd => h S2 σ2 H2 (e.trans e2) hd
/-! the rows are made -/
def r0 (K : PySem.W.Frag) (T : Tb) (i : Nat) (f : Rho → Option Rho) : TS := fun De σ H => ∃ β G S ρ, Ok K T β G S σ ρ H ∧ match f ρ with
  | some ρ' => ∀ S' σ' H', Same S S' → Gd K T β G S' σ' ρ' H' i [] [] → De.nx σ' H'
  | none => False
end
end Lq
namespace Lq
open PySem PySem.Spec PyProof.Rows L2
/-! ### tuple(range(a, b)) -/
end Lq
namespace Lq
open PySem PySem.Spec PyProof.Rows L2
/-! ### zip(text, tuple, tuple) -/
/-! ### the walk over zip(text, tuple, tuple) -/
end Lq
namespace Lq
open PySem PySem.Spec PyProof.Rows L2
/-! ### what is kept of nested known tuples, as plain tuples -/
mutual
def coD : D → D
  | .obj t xs => if isPt t then .tup (coDs xs) else .obj t xs
  | .tup xs => .tup (coDs xs)
  | .non => .non
  | .bl b => .bl b
  | .int n => .int n
  | .str s => .str s
  | .lst xs => .lst xs
  | .scr ns => .scr ns
def coDs : List D → List D
  | [] => []
  | x :: xs => coD x :: coDs xs
end
section
variable {K : PySem.W.Frag} {T : Tb} {S : Hp}
mutual
theorem rp_coD : ∀ {d : D} {v : V}, Rp K T S d v → Rp K T S (coD d) v
  | .obj t xs, v, h => by
    show Rp K T S (if isPt t = true then .tup (coDs xs) else .obj t xs) v
    by_cases ht : isPt t = true
    · rw [if_pos ht]
      rw [pt_at ht] at h
      obtain ⟨a, o, vs, rfl, h1, h2, r⟩ := pt_of h
      exact ⟨a, vs, rfl, .inl (.inr ⟨o, h1⟩), rps_coDs r⟩
    · rw [if_neg ht]; exact h
  | .tup xs, v, h => by
    obtain ⟨a, vs, rfl, q, r⟩ := h
    exact ⟨a, vs, rfl, q, rps_coDs r⟩
  | .non, _, h => h
  | .bl _, _, h => h
  | .int _, _, h => h
  | .str _, _, h => h
  | .lst _, _, h => h
  | .scr _, _, h => h
theorem rps_coDs : ∀ {xs : List D} {vs : List V}, Rps K T S xs vs → Rps K T S (coDs xs) vs
  | [], _, h => h
  | _ :: _, _, ⟨u, r, e1, h1, hs⟩ => ⟨u, r, e1, rp_coD h1, rps_coDs hs⟩
end
theorem DKV.co : ∀ {l : List (Key × D)} {kvs : List (Key × V)}, DKV K T S l kvs → DKV K T S (l.map fun p => (p.1, coD p.2)) kvs
  | _, _, .nil => .nil
  | _, _, .cons h t => .cons ⟨h.1, rp_coD h.2⟩ (DKV.co t)
end
/-! ### dict(a known tuple of pairs) -/
end Lq
namespace Lq
open PySem PySem.Spec PyProof.Rows L2
/-! ### sorted(xs), xs a list of tuples of numbers and texts, all of one shape -/
/-! .. over data -/
/-! ### zip of two, lists or tuples as they come -/
end Lq
namespace Lq
open PySem PySem.Spec PyProof.Rows L2
/-! ### len(set(a list of tuples of texts)) -/
end Lq
namespace Lq
open PySem PySem.Spec PyProof.Rows L2
/-! ### x = {k: e, ..}; x[k] = e: a new dict, changed once, then locked for good -/
/-! #### stepwise -/
end Lq
namespace Lq
open PySem PySem.Spec PyProof.Rows L2
/-! ### an error out of a list comprehension's element -/
end Lq
namespace Lq
open PySem PySem.Spec PyProof.Rows L2
end Lq
namespace Lq
open PySem PySem.Spec PyProof.Rows L2
/-! ### list comprehensions whose element may let an error out -/
/-! #### stepwise -/
end Lq
namespace Lq
open PySem PySem.Spec PyProof.Rows L2
/-! ### x is not True, x is not False -/
end Lq
namespace Lq
open PySem PySem.Spec PyProof.Rows L2
/-! ### sets of pairs of tuples of texts: one table, searched and filled (printed by mkq78.py from Q48) -/
namespace P2
abbrev PK := List Str × List Str
/-- by choice, so that nothing unfolds it -/
theorem khP_ex (P : Program) (w : World) : ∃ f : PK → Int, ∀ k, f k = reduceHash (Builtin.Tuple.tupleHashOf [kh P w k.1, kh P w k.2]) := ⟨_, fun _ => rfl⟩
noncomputable def khP (P : Program) (w : World) : PK → Int := Classical.choose (khP_ex P w)
def IsP (P : Program) (w : World) (h : Heap) (k : PK) (b : Addr) : Prop := ∃ o t1 t2 n, h.get? b = some o ∧ o.cls = .type "tuple" ∧ o.data = .seq #[.ref t1, .ref t2] n ∧ IsS P w h k.1 t1 ∧ IsS P w h k.2 t2
section
variable {P : Program} {w : World} {A : Around} {E : Value → Shared → Prop} {s : Shared}
theorem IsP.inj {h : Heap} {a : Addr} {x y : PK} (hx : IsP P w h x a) (hy : IsP P w h y a) : x = y := by
  obtain ⟨o, t1, t2, n, eo, _, ed, x1, x2⟩ := hx
  obtain ⟨o', u1, u2, m, eo', _, ed', y1, y2⟩ := hy
  obtain rfl : o = o' := Option.some.inj (eo.symm.trans eo')
  rw [ed] at ed'
  injection ed' with h1 _
  have h2 : [Value.ref t1, Value.ref t2] = [Value.ref u1, Value.ref u2] := congrArg Array.toList h1
  injection h2 with h3 h4
  injection h4 with h5 _
  injection h3 with h3
  injection h5 with h5
  subst h3 h5
  exact Prod.ext (IsTupleKey.inj x1 y1) (IsTupleKey.inj x2 y2)
end
section
variable {P : Program} {w : World} {A : Around} {E : Value → Shared → Prop} {s : Shared}
/-- the set at a holds the tuples L, in the order of its table -/
structure SS (P : Program) (w : World) (h : Heap) (a : Addr) (L : List (Addr × PK)) (es : Array (Int × Value)) (ep : Nat) (t : SetTable) : Prop where
  obj : ∃ o, h.get? a = some o ∧ o.ExactSet ∧ o.data = .set es ep t
  ent : es.toList = L.map fun p => (khP P w p.2, Value.ref p.1)
  tab : TabOk t (L.map fun p => khP P w p.2)
  dif : (L.map (·.2)).Nodup
  tps : ∀ p ∈ L, IsP P w h p.2 p.1
  led : w.params.followText "set-order" = true ∨ t.led = true
  room : L.length * 5 < t.mask * 3
  few : L.length < 64
variable {a : Addr} {L : List (Addr × PK)} {es : Array (Int × Value)} {ep : Nat} {t : SetTable}
theorem SS.len (R : SS P w s.heap a L es ep t) : es.size = L.length := by rw [← Array.length_toList, R.ent, List.length_map]
theorem SS.here (R : SS P w s.heap a L es ep t) : ¬ t.gaveWay = true := by
  unfold SetTable.gaveWay
  rw [mask_odd R.tab.mok]; decide
theorem IsP.keep {h g : Heap} {k : PK} {b : Addr} (x : IsP P w h k b) (kk : ∀ c o, h.get? c = some o → g.get? c = some o) : IsP P w g k b := by
  obtain ⟨o', t1, t2, n, e1, e2, e3, x1, x2⟩ := x
  exact ⟨o', t1, t2, n, kk b o' e1, e2, e3, x1.keep kk, x2.keep kk⟩
theorem SS.keep {h g : Heap} (R : SS P w h a L es ep t) (ka : ∀ o, h.get? a = some o → g.get? a = some o) (kt : ∀ p ∈ L, IsP P w g p.2 p.1) : SS P w g a L es ep t := by
  obtain ⟨o, eo, r⟩ := R.obj
  exact ⟨⟨o, ka o eo, r⟩, R.ent, R.tab, R.dif, kt, R.led, R.room, R.few⟩
end
section
variable {P : Program} {w : World} {A : Around} {E : Value → Shared → Prop} {s : Shared}
def emptyT (w : World) : SetTable := .fresh 0 0 (!w.params.followText "set-order")
def emptyO (w : World) : Obj := { cls := .type "set", dict := none, data := .set #[] 0 (emptyT w) }
theorem SS.fresh {h : Heap} {a : Addr} (ho : h.get? a = some (emptyO w)) : SS P w h a [] #[] 0 (emptyT w) where
  obj := ⟨_, ho, ⟨rfl, rfl, rfl⟩, rfl⟩
  ent := rfl
  tab := ⟨List.Pairwise.nil, rfl, rfl, .inl rfl, fun x hx => (nomatch hx), fun i h j hi => (by simp at hi)⟩
  dif := List.nodup_nil
  tps := fun p hp => (nomatch hp)
  led := by
    show _ ∨ (!w.params.followText "set-order") = true
    cases w.params.followText "set-order"
    · exact .inr rfl
    · exact .inl rfl
  room := by show 0 * 5 < 7 * 3; decide
  few := by show 0 < 64; decide
end
end P2
end Lq
namespace Lq
open PySem PySem.Spec PyProof.Rows L2
end Lq
namespace Lq
open PySem PySem.Spec PyProof.Rows L2
namespace P2
/-! ### sorted(set(a list of pairs of tuples of texts)) -/
structure SetS0 (P : Program) (w : World) (h : Heap) (a : Addr) (L : List (Addr × PK)) : Prop where
  ex : ∃ (es : Array (Int × Value)) (ep : Nat) (t : SetTable), (∃ o, h.get? a = some o ∧ o.ExactSet ∧ o.data = .set es ep t) ∧ es.toList = L.map (fun p => (khP P w p.2, Value.ref p.1)) ∧ TabOk t (L.map fun p => khP P w p.2) ∧ (L.map (·.2)).Nodup ∧
    (w.params.followText "set-order" = true ∨ t.led = true) ∧ L.length * 5 < t.mask * 3 ∧ L.length < 64
theorem SS.bare {P : Program} {w : World} {h : Heap} {a : Addr} {L : List (Addr × PK)} {es : Array (Int × Value)} {ep : Nat} {t : SetTable} (R : SS P w h a L es ep t) : SetS0 P w h a L := ⟨es, ep, t, R.obj, R.ent, R.tab, R.dif, R.led, R.room, R.few⟩
end P2
end Lq
namespace Lq
open PySem PySem.Spec PyProof.Rows L2
/-! ### sorted(set(a list of pairs of tuples of texts)), over data -/
end Lq
namespace Lq
open PySem PySem.Spec PyProof.Rows L2
/-! ### a dict that a name holds as its own: x = {}, x[k] = e, and x, locked for good where it is read -/
/-! #### stepwise -/
end Lq
namespace Lq
open PySem PySem.Spec PyProof.Rows L2
/-! ### sorted(a dict): its keys, ints or texts -/
/-! over data -/
/-! ### x.get(k, e), k in x, x a name's own dict -/
/-! ### a dict display as a value: a new dict, locked for good -/
/-! #### stepwise -/
end Lq
namespace Lq
open PySem PySem.Spec PyProof.Rows L2
/-! ### enumerate(zip(x, y)) over the raw heap: the tuple of the zip is held by the one of the enumerate -/
namespace EZ
/-- a zip, whatever became of its tuple -/
abbrev Zp (h : Heap) (z TI TO : Addr) (f0 : Value) (b : Bool) : Prop :=
  h.get? z = some { cls := .type "zip", dict := none, data := .fields #[f0, .bool b, .bool false, .ref TI, .ref TO], slots := #[] }
def ZSt (z TI TO i1 i2 : Addr) (St1 St2 : Nat → Heap → Prop) (i : Nat) (h : Heap) : Prop :=
  (∃ f0 b, Zp h z TI TO f0 b ∧ (f0 = .none ∨ ∃ a : Nat, f0 = rawInt a)) ∧ IsTupOf2 h TI (.ref i1) (.ref i2) ∧ (∃ a1 a2, IsTupOf2 h TO a1 a2) ∧ St1 i h ∧ St2 i h
section
variable {prog : Program} {w : World} {A : Around} {E : Value → Shared → Prop} {s : Shared} {z TI TO i1 i2 : Addr} {fp1 fp2 : List Addr} {n1 n2 i : Nat} {P1 P2 : Nat → Value → Prop} {St1 St2 : Nat → Heap → Prop}
theorem alive {a : Addr} {Q : Option Obj → Shared → Prop} (q : Q (s.heap.get? a) s) : wpAny (model prog w) A (loadIfAlive a) Q E s := fun Γ p hΓ => by
  unfold loadIfAlive
  rw [Sem.wp_loadIfAlive]
  exact q
/-- the look whether the tuple is free: yes, or no with a note -/
theorem free {f0 : Value} {b : Bool} {Q : Bool → Shared → Prop} (hz : Zp s.heap z TI TO f0 b) (hf : f0 = .none ∨ ∃ a : Nat, f0 = rawInt a) (yes : Q true s)
    (no : ∀ (a : Nat) h', f0 = rawInt a → Zp h' z TI TO f0 true → Heap.SameBut z s.heap h' → Q false { s with heap := h' }) : wpAny (model prog w) A (Builtin.SmallTypes.ownedTupleIsFree (.ref z)) Q E s := by
  unfold Builtin.SmallTypes.ownedTupleIsFree
  refine wpAny_bind (wpAny_field hz rfl (x := f0) rfl ?_)
  rcases hf with rfl | ⟨a, rfl⟩
  · exact wpAny_pure yes
  · change wpAny _ _ (loadIfAlive ((a : Int).toNat) >>= _) _ _ _
    refine wpAny_bind (alive ?_)
    cases e : s.heap.get? ((a : Int).toNat) with
    | none =>
      simp only [Option.isNone_none, if_true]
      exact wpAny_pure yes
    | some oa =>
      simp only [Option.isNone_some, Bool.false_eq_true, if_false]
      refine wpAny_bind (wpAny_field hz rfl (x := .bool b) rfl ?_)
      cases b with
      | true =>
        rw [if_neg (by decide)]
        exact wpAny_pure (no a _ rfl hz (Heap.SameBut.refl ..))
      | false =>
        rw [if_pos (by decide)]
        refine wpAny_bind (wpAny_setField_rec hz (by simp) fun h' hz' hs' => ?_)
        exact wpAny_pure (no a h' rfl hz' hs')
end
end EZ
end Lq
namespace Lq
open PySem PySem.Spec PyProof.Rows L2
namespace EZ
section
variable {prog : Program} {w : World} {A : Around} {E : Value → Shared → Prop} {s : Shared} {z TI TO i1 i2 : Addr} {fp1 fp2 : List Addr} {n1 n2 i : Nat} {P1 P2 : Nat → Value → Prop} {St1 St2 : Nat → Heap → Prop}
theorem ZSt.keep (D1 : Draws prog w A i1 fp1 n1 P1 St1) (D2 : Draws prog w A i2 fp2 n2 P2 St2) {h h' : Heap} (st : ZSt z TI TO i1 i2 St1 St2 i h) (k : ∀ c, c ∈ z :: TI :: TO :: (fp1 ++ fp2) → ∀ o, h.get? c = some o → h'.get? c = some o) : ZSt z TI TO i1 i2 St1 St2 i h' := by
  obtain ⟨⟨f0, b, hz, hf⟩, hTI, ⟨a1, a2, hTO⟩, s1, s2⟩ := st
  exact ⟨⟨f0, b, k z (by simp) _ hz, hf⟩, k TI (by simp) _ hTI, ⟨a1, a2, k TO (by simp) _ hTO⟩, D1.frame _ _ _ s1 fun c hc o e => k c (by simp [hc]) o e, D2.frame _ _ _ s2 fun c hc o e => k c (by simp [hc]) o e⟩
/-- the cells of the enumerate lie apart from the zip's -/
structure Ap (e z TI TO : Addr) (fp1 fp2 : List Addr) : Prop where
  z : e ≠ z
  ti : e ≠ TI
  to : e ≠ TO
  f1 : e ∉ fp1
  f2 : e ∉ fp2
theorem Ap.all {e : Addr} (p : Ap e z TI TO fp1 fp2) {c : Addr} (h : c ∈ z :: TI :: TO :: (fp1 ++ fp2)) : c ≠ e := fun q => by
  subst q
  rcases List.mem_cons.1 h with h | h
  · exact p.z h
  · rcases List.mem_cons.1 h with h | h
    · exact p.ti h
    · rcases List.mem_cons.1 h with h | h
      · exact p.to h
      · rcases List.mem_append.1 h with h | h
        · exact p.f1 h
        · exact p.f2 h
end
end EZ
end Lq
namespace Lq
open PySem PySem.Spec PyProof.Rows L2
open AutoSeq1 (wpAny_loadPart')
/-! ### enumerate(zip(tuple, tuple)) as what is walked -/
end Lq
namespace Lq
open PySem PySem.Spec PyProof.Rows L2
/-! ### f-strings of texts and ints -/
end Lq
namespace Lq
open PySem PySem.Spec PyProof.Rows L2
/-! ### a comprehension over own lists that stay own: what it shows is flat, and nothing else changes -/
end Lq
namespace Lq
open PySem PySem.Spec PyProof.Rows L2
/-! ### a text no times, once and more -/
end Lq
namespace Lq
open PySem PySem.Spec PyProof.Rows L2
/-! ### dicts whose keys are tuples of ints and texts: .obj 57 [length, items, value, ..] -/
def flatTD : List (List Key × D) → List D
  | [] => []
  | p :: r => .int (p.1.length : Nat) :: (p.1.map kD ++ p.2 :: flatTD r)
def takeK : Nat → List D → Option (List Key × List D)
  | 0, r => some ([], r)
  | _ + 1, [] => none
  | n + 1, d :: r => match keyD d, takeK n r with
    | some k, some (ks, q) => some (k :: ks, q)
    | _, _ => none
def pairsT : Nat → List D → Option (List (List Key × D))
  | _, [] => some []
  | 0, _ :: _ => none
  | f + 1, d :: r => match d with
    | .int n => (match takeK n.toNat r with
      | some (ks, v :: q) => (match pairsT f q with | some l => some ((ks, v) :: l) | none => none)
      | _ => none)
    | _ => none
section
variable {K : PySem.W.Frag} {T : Tb} {S S' H : Hp}
def DKT (K : PySem.W.Frag) (T : Tb) (S : Hp) : List (List Key × D) → List (List Key × V) → Prop := Paired fun (p : List Key × D) (q : List Key × V) => p.1 = q.1 ∧ Rp K T S p.2 q.2
theorem DKT.mono {l : List (List Key × D)} {kvs : List (List Key × V)} (e : Same S S') (h : DKT K T S l kvs) : DKT K T S' l kvs := Paired.mapP h fun _ _ z => ⟨z.1, Rp.mono e _ _ z.2⟩
theorem DKT.len {l : List (List Key × D)} {kvs : List (List Key × V)} (h : DKT K T S l kvs) : l.length = kvs.length := Paired.length h
theorem takeK_rp : ∀ {ks : List Key} {fs : List D} {r : List V} {ks' : List Key} {q : List D}, Rps K T S fs (ks.map L2.kV ++ r) → takeK ks.length fs = some (ks', q) → ks' = ks ∧ Rps K T S q r
  | [], fs, r, ks', q, h, e => by cases e; exact ⟨rfl, h⟩
  | k :: ks, [], r, ks', q, h, e => by cases e
  | k :: ks, d :: fs, r, ks', q, ⟨v, r2, e1, h1, h2⟩, e => by
    rw [List.map_cons, List.cons_append] at e1
    cases e1
    rw [List.length_cons, takeK] at e
    split at e
    · rename_i k1 ks1 q1 a1 a2
      cases e
      obtain ⟨e2, h3⟩ := takeK_rp h2 a2
      rw [keyD_of a1] at h1
      exact ⟨by rw [e2, L2.kV_inj (rp_key h1)], h3⟩
    · cases e
theorem DKT.of : ∀ {f : Nat} {fs : List D} {l : List (List Key × D)} {kvs : List (List Key × V)}, Rps K T S fs (flatKT kvs) → pairsT f fs = some l → DKT K T S l kvs
  | _, [], l, kvs, r, h => by
    have : l = [] := by
      rename_i f
      cases f <;> (cases h; rfl)
    subst this
    cases kvs with
    | nil => exact .nil
    | cons p q => exact nomatch (show flatKT (p :: q) = [] from r)
  | 0, _ :: _, _, _, _, h => by cases h
  | f + 1, d :: fs, l, kvs, ⟨u, r1, e1, h1, h2⟩, h => by
    cases kvs with
    | nil => cases e1
    | cons p q =>
      rw [flatKT] at e1
      cases e1
      cases d with
      | int n =>
        have hn : n = (p.1.length : Nat) := by
          have : V.int (p.1.length : Nat) = V.int n := h1
          injection this with this
          exact this.symm
        subst hn
        simp only [pairsT, Int.toNat_natCast] at h
        split at h
        · rename_i ks v q1 a1
          obtain ⟨e2, h3⟩ := takeK_rp h2 a1
          obtain ⟨u2, r2, e3, h4, h5⟩ := h3
          cases e3
          split at h
          · rename_i m a2
            cases h
            exact .cons ⟨e2, h4⟩ (DKT.of h5 a2)
          · cases h
        · cases h
      | _ => simp [pairsT] at h
theorem keys_rp : ∀ (ks : List Key), Rps K T S (ks.map kD) (ks.map L2.kV)
  | [] => rfl
  | k :: ks => ⟨_, _, rfl, key_rp k, keys_rp ks⟩
theorem DKT.flat : ∀ {l : List (List Key × D)} {kvs : List (List Key × V)}, DKT K T S l kvs → Rps K T S (flatTD l) (flatKT kvs)
  | _, _, .nil => rfl
  | _, _, .cons (a := p) (b := q) h t => by
    rw [flatTD, flatKT, h.1]
    exact ⟨_, _, rfl, rfl, Rps.append (keys_rp q.1) ⟨_, _, rfl, h.2, DKT.flat t⟩⟩
theorem DKT.at {k : List Key} {d : D} {l : List (List Key × D)} {kvs : List (List Key × V)} (h : DKT K T S l kvs) {i : Nat} (hi : l[i]? = some (k, d)) : ∃ v, kvs[i]? = some (k, v) ∧ Rp K T S d v := by
  unfold DKT at h
  induction h generalizing i with
  | nil => cases hi
  | @cons p q ps qs h t ih =>
    cases i with
    | zero =>
      simp only [List.getElem?_cons_zero, Option.some.injEq] at hi ⊢
      subst hi
      exact ⟨q.2, by obtain ⟨q1, q2⟩ := q; obtain ⟨e, _⟩ := h; simp only at e; subst e; rfl, h.2⟩
    | succ i =>
      simp only [List.getElem?_cons_succ] at hi ⊢
      exact ih hi
end
end Lq
namespace Lq
open PySem PySem.Spec PyProof.Rows L2
/-! ### a dict of a name's own, its keys tuples: x = {}, x[tuple(..)] = e, and x, locked for good where it is read -/
def newT (i : Nat) : Rho → O := fun ρ => .nx (ρ.set i (.kt []))
section
variable {K : PySem.W.Frag} {T : Tb} {W : WX} {β : Bt} {G S S' H : Hp} {σ : L2.St} {ρ : Rho}
/-- a new tuple -/
def PostTp (K : PySem.W.Frag) (T : Tb) (W : WX) (β : Bt) (G S : Hp) (σ : L2.St) (r : R (List D)) (Q : VK) : Prop := match r with
  | .ok ds ρ' => ∀ S' H' p vs, Same S S' → Ok K T β G S' σ ρ' H' → S' p = some (.tup vs) → Rps K T S' ds vs → Q (.ref p) H'
  | .err x ρ' => ∀ S' H' c d, Same S S' → Ok K T β G S' σ ρ' H' → XR K T S' x c d → W c d σ H'
  | .bad => False
theorem PostTp.mono {r : R (List D)} {Q : VK} (h : PostTp K T W β G S σ r Q) (e : Same S S') : PostTp K T W β G S' σ r Q := by
  cases r with
  | ok a ρ' => exact fun S2 H2 p vs e2 o => h S2 H2 p vs (e.trans e2) o
  | err x ρ' => exact fun S2 H2 c d e2 o => h S2 H2 c d (e.trans e2) o
  | bad => exact h
end
/-! #### stepwise -/
end Lq
namespace Lq
open PySem PySem.Spec PyProof.Rows L2
end Lq
namespace Lq
open PySem PySem.Spec PyProof.Rows L2
/-! ### a display of one pair, its key a new tuple; a def that hands back a new tuple -/
/-! #### defs whose body is: return a new tuple -/
/-! #### stepwise -/
end Lq
namespace Lq
open PySem PySem.Spec PyProof.Rows L2
/-! ### t.count(text), t a known tuple of texts -/
end Lq
namespace Lq
open PySem PySem.Spec PyProof.Rows L2
/-! ### x = [new list, e, ..]; x = x + [e, ..]; if c: return ..; x[0].append(text): x is not read behind it -/
/-! #### stepwise -/
end Lq
namespace Lq
open PySem PySem.Spec PyProof.Rows L2
/-! ### C(f=e) of a class with slots and a default -/
/-! ### C.m(f=e): a static method by keywords -/
/-! ### x.upper() -/
end Lq
namespace Lq
open PySem PySem.Spec PyProof.Rows L2
/-! ### x.replace(y, z) of two written texts, behind a written text of the same list -/
def XET (X : Cx) (T : Tb) (W : WX) (e : Expr) (f : Rho → R VD) : Prop := PET X e (rE X.K T W f)
section
variable {X : Cx} {T : Tb} {W : WX} {a e o : Expr} {es : List Expr} {fa fo : Rho → R VD} {fs : Rho → R (List VD)} {pos apos : Pos}
theorem _root_.L2.PAT.impQ {X : Cx} {e : List Expr} {t t' : TA} (h : PAT X e t) (i : ∀ σ H Q, t' σ H Q → t σ H Q) : PAT X e t' := fun pos pins s σ H Q h0 I w => h pos pins s σ H Q h0 I (i σ H Q w)
end
end Lq
namespace Lq
open PySem PySem.Spec PyProof.Rows L2
/-! ### sorted of a list or a tuple by a key -/
/-! ### the stable order by a key -/
/-! ### the lambda's body -/
/-! ### the lambda is made: all stays, but its table, which grows -/
/-! ### sorted(e, key=lambda own: -known[own] if dear else known[own]) -/
/-! #### in the layer -/
end Lq
namespace Lq
open PySem PySem.Spec PyProof.Rows L2
/-! ### the end of a law whose defs make a lambda -/
/-! ### a def by its body, its code object known -/
end Lq
namespace Lq
open PySem PySem.Spec PyProof.Rows L2
/-! ### xs[::2] of a list -/
/-! ### range(i, j, 2) -/
end Lq
namespace Lq
open PySem PySem.Spec PyProof.Rows L2
/-! ### tuple(text) as a known tuple -/
end Lq
namespace Lq
open PySem PySem.Spec PyProof.Rows L2
/-! ### x.replace("..", picked by a draw from a row of written texts) -/
/-- what a def that picks by a draw does, its row's object known: the picked thing itself -/
def OfRun (P : Program) (w : World) (K : PySem.W.Frag) (mg : Str → Option Value) (base : Heap) (T : Tb) (k : Nat) (f : Addr) (F : List Int → List D → Option (D × List Int)) : Prop :=
  ∀ (A : Around) (outer : List PySem.Env) (s : Shared) (S H : Hp) (b a : Addr) (ns ns' : List Int) (r : Int) (o : Obj) (vs : List V) (us : List Value) (m : Nat) (u : Value) (v : V) (Q : Hp → Prop),
    Room k A → Env0 P w K mg base A outer s H → SameT T S H → S b = none → H b = some (.lst (ns.map V.int)) → H a = some (.frz o (.lst vs)) → o.cls = .type "list" → o.data = .seq us.toArray m → vs.length = us.length → us.length ≤ 1000 →
    F ns [.int (us.length : Nat)] = some (.int r, ns') → 0 ≤ r → r < 1000000 → us[r.toNat]? = some u → RelV v u → (∀ S' H', ExtB T b ns' S H S' H' → Q H') →
    codeAny (model P w) A (.call (.ref f) ⟨[.ref b, .ref a], []⟩) (fun q s' => match q with | .ok (.ret u') => u' = u ∧ CE outer P w H s (fun _ H' => Q H') u s' | .ok _ => False | .error e => L2.CX P w outer H s L2.E0 e s') s
section
variable {P : Program} {w : World} {K : PySem.W.Frag} {mg : Str → Option Value} {base : Heap} {T : Tb}
theorem of_run {x qual : Str} {st : Stmt} {f : Addr} {fd : FuncData} {y g : Str} {k : Nat} {F : List Int → List D → Option (D × List Int)} {idx : Expr} {p1 sp rp : Pos} (Fn : Fun K x qual st f fd) (Sc : FnScope [y, g] [y, g] (defScope st)) (hb : Binds K fd [y, g] [])
    (hbd : defBody st = [.Return (some (.Subscript (.Name g p1) idx sp)) rp]) (hg : (defScope st).names.lookup g = some .local) (pl : PlainIx idx) (dg : (g == ("__debug__" : Str)) = false) (cg : (g == ("__classdict__" : Str)) = false)
    (hidx : ∀ (cdv : Value) (A : Around) (outer : List PySem.Env) (s : Shared) (H : Hp), Room k (A.deeper (envOfC qual (defScope st) s.heap.objs.size f cdv)) →
      PE (cxOf (L2.CX P w) P w K mg base [y, g] qual (defScope st) f cdv A outer s H L2.E0) idx (tCallS (spB K T 1 F) (WE W0) (tCons (tVar 0) (tCons (tCB (fun xs H Q => ∃ x n, xs = [x] ∧ LenV K x H n ∧ Q (.int n) H) (tCons (tVar 1) tNil)) tNil)))) :
    OfRun P w K mg base T (k + 1) f F := by
  intro A outer s S H b a ns ns' r o vs us m u v Q hr e0 e hSb hHb hHa hoc hod hlen hlt hF h0 h1 hu hv hQ
  obtain ⟨oc, od, kV, doc, pm, an, cdv, ct, osl, rfl, lk, hcd⟩ := Fn.ex
  have KX : K.In s.heap := e0.mod.kin.keeps fun b o e => (e0.bs b o e).1
  have lim : s.heap.NoLimit := e0.mod.nolimit.keeps fun b o e => (e0.bs b o e).1
  have bt := hb s [Value.ref b, .ref a] KX rfl
  refine codeAny_call_function hr.depth (KX _ _ lk) rfl Sc.co Sc.gen rfl (PySem.W.codeRec_of KX hcd) (bt _ _ _ _ ?_)
  have hkind : ∀ z ∈ [y, g].zip ([Value.ref b, .ref a] ++ []), (defScope st).names.lookup z.1 = some .local ∨ ((defScope st).names.lookup z.1 = some .cell ∧ ((cellsFrom (s.heap.objs.size + 1) (defScope st).names []).lookup z.1).isSome = true) := fun ⟨n, z⟩ hz => (Sc.par n (List.of_mem_zip hz).1).imp _root_.id fun q => ⟨q, PySem.W.cellsFrom_some _ _ _ (.inl q)⟩
  refine wpAny_newFunctionEnv_cells Sc.kind hkind fun env he s1 xx => ?_
  subst he
  refine ⟨lim.keeps xx.toInCall.keep, codeAny_func ?_⟩
  have rv : Vals [V.ref b, .ref a] [Value.ref b, .ref a] := .cons rfl (.cons rfl .nil)
  have I : Inv (cxOf (L2.CX P w) P w K mg base [y, g] qual (defScope st) f cdv A outer s H L2.E0) [] (L2.start [y, g] [V.ref b, .ref a]) H s1 := inv_start Sc hr.hd e0 rfl rv xx
  have hp := hidx cdv A outer s H (hr.deeper _)
  rw [hbd]
  refine wpAny_execs_cons (wpAny_Return_some (Subscript_ (raw_name (i := 1) (x := g) (v := V.ref a) rfl (.inl hg) I rfl (fun z rz => ?_) dg cg)))
  obtain rfl : z = Value.ref a := rz
  have spb : ∃ S b' ns ws ds, [V.ref b, .int (vs.length : Nat)] = .ref b' :: ws ∧ SameT T S H ∧ S b' = none ∧ H b' = some (.lst (ns.map V.int)) ∧ Rps K T S ds ws ∧ ds.length = 1 ∧ (match F ns ds with
      | some (d, ns') => ∀ S' H' v, ExtB T b' ns' S H S' H' → Rp K T S' d v → (v = .int r ∧ H' a = some (.frz o (.lst vs)) ∧ Q H')
      | none => False) := by
    refine ⟨S, b, ns, [.int (vs.length : Nat)], [.int (us.length : Nat)], rfl, e, hSb, hHb, ⟨_, _, rfl, by rw [hlen]; rfl, rfl⟩, rfl, ?_⟩
    rw [hF]
    intro S' H' v' x2 rv'
    have ne : a ≠ b := fun z => by rw [z, hHb] at hHa; cases hHa
    exact ⟨rv', x2.h a _ ne hHa, hQ _ _ x2⟩
  have lenV : LenV K (.ref a) H vs.length := .inl ⟨vs, .inl (.inr ⟨o, hHa⟩), rfl⟩
  have go := hp.run [] s1 (L2.start [y, g] [V.ref b, .ref a]) H (fun xv H2 => xv = .int r ∧ H2 a = some (.frz o (.lst vs)) ∧ Q H2) I ⟨_, rfl, _, rfl, _, _, rfl, lenV, spb⟩
  refine thn go fun iv s2 ⟨xv, H2, I2, r2, e3, hH2, q2⟩ => ?_
  subst e3
  obtain ⟨t2, rfl⟩ := _root_.id r2
  have hl : s2.heap.IsList a us.toArray := ⟨o, (I2.hok a _ hH2).1, hoc, m, hod⟩
  refine item_listR (s := s2) hl h0 (by omega) (by rw [List.getElem?_toArray]; exact hu) ?_ (pl _ _)
  exact ⟨rfl, v, H2, I2.os, I2.bare, I2.base, I2.hok, hv, q2⟩
end
/-! #### e.replace("..", f(box, ["..", "..", "..", ".."])) -/
def replOfE (y : Str) (zs : List Str) (Fr : List Int → List D → Option (D × List Int)) (fo : Rho → R VD) : Rho → R VD := fun ρ => (fo ρ).bind fun (v : VD) (ρ1 : Rho) => match v with
  | .d (.str x) => (match ρ1[0]? with
    | some (Cell.b ns) => if onlyB 0 ρ1 then (match Fr ns [.int (zs.length : Nat)] with
      | some (.int r, ns') => if decide (0 ≤ r) && decide (r < 1000000) then (match zs[r.toNat]? with
        | some z => if !(y == z) && Nat.ble (x.length + (x.length + 1) * z.length) 16777216 then .ok (.d (.str (Txt.replace x y z))) (ρ1.set 0 (.b ns')) else .bad
        | none => .bad) else .bad
      | _ => .bad) else .bad
    | _ => .bad)
  | _ => .bad
section
variable {X : Cx} {T : Tb} {W : WX} {o : Expr} {fo : Rho → R VD} {Fr : List Int → List D → Option (D × List Int)} {k : Nat} {f : Addr}
theorem xet_replOf {y z0 z1 z2 z3 fx bx : Str} {j j0 j1 j2 j3 : Nat} {c pf pb q0 q1 q2 q3 lp cp apos pos : Pos} (Rn : OfRun X.prog X.w X.K X.mg X.base T k f Fr) (hr : Room k X.A) (hm : X.mg fx = some (.ref f)) (hk : PySem.W.keepIn X.K (.ref f) = true) (ho : XE X T W o fo)
    (hNb : X.N[0]? = some bx := by rfl) (hvb : Vis X.env.scope bx := by first | exact Or.inl rfl | exact Or.inr (Or.inl rfl)) (hg : L2.Gl X fx := by rfl) (hdb : (fx == ("__debug__" : Str)) = false := by decide) (db : (bx == ("__debug__" : Str)) = false := by decide) (cb : (bx == ("__classdict__" : Str)) = false := by decide)
    (hst : starEach [.Constant (.str y) j c, .Call (.Name fx pf) [.Name bx pb, .List [.Constant (.str z0) j0 q0, .Constant (.str z1) j1 q1, .Constant (.str z2) j2 q2, .Constant (.str z3) j3 q3] lp] [] cp] X.env =
      [(false, eval (.Constant (.str y) j c) X.env), (false, eval (.Call (.Name fx pf) [.Name bx pb, .List [.Constant (.str z0) j0 q0, .Constant (.str z1) j1 q1, .Constant (.str z2) j2 q2, .Constant (.str z3) j3 q3] lp] [] cp) X.env)] := by rfl)
    (hbase : attributeBase o "replace" X.env (eval o X.env) = eval o X.env := by rfl) (hline : (apos.endLine == pos.line) = true := by rfl) :
    XET X T W (.Call (.Attribute o "replace" apos) [.Constant (.str y) j c, .Call (.Name fx pf) [.Name bx pb, .List [.Constant (.str z0) j0 q0, .Constant (.str z1) j1 q1, .Constant (.str z2) j2 q2, .Constant (.str z3) j3 q3] lp] [] cp] [] pos) (replOfE y [z0, z1, z2, z3] Fr fo) := by
  intro pins s σ H Q h0 I h
  obtain ⟨β, G, S, ρ, ok, p⟩ := h
  refine PySem.Call_method2 hbase hst hline (wpAny_mono (PySem.wpAny_toks (ho.run pins s σ H (fun v H1 => ∃ x b ns ns' r z G S1 ρ1, v = .str x ∧ Ok X.K T (.bx b) G S1 σ ρ1 H1 ∧ ρ1[0]? = some (.b ns) ∧ onlyB 0 ρ1 = true ∧
      Fr ns [.int (4 : Nat)] = some (.int r, ns') ∧ 0 ≤ r ∧ r < 1000000 ∧ [z0, z1, z2, z3][r.toNat]? = some z ∧ (y == z) = false ∧ x.length + (x.length + 1) * z.length ≤ 16777216 ∧
      ∀ S2 H2, Same S1 S2 → Ok X.K T (.bx b) G S2 σ (ρ1.set 0 (.b ns')) H2 → Q (.str (Txt.replace x y z)) H2) I ⟨β, G, S, ρ, ok, Post.thn (Rl := RpV X.K T σ) p fun S1 H1 ρ1 v u e1 o1 h1 p1 => ?_⟩)) (fun v s1 q => ?_) fun _ _ z => z.2)
  · split at p1
    case h_2 => exact p1.elim
    case h_1 x =>
    split at p1
    case h_2 => exact p1.elim
    case h_1 ns q0 =>
    split at p1
    case isFalse => exact p1.elim
    case isTrue hob =>
    split at p1
    case h_2 => exact p1.elim
    case h_1 r ns' hF =>
    split at p1
    case isFalse => exact p1.elim
    case isTrue hrr =>
    split at p1
    case h_2 => exact p1.elim
    case h_1 z hz =>
    split at p1
    case isFalse => exact p1.elim
    case isTrue hq =>
    rw [Bool.and_eq_true, Bool.not_eq_true', Nat.ble_eq] at hq
    rw [Bool.and_eq_true] at hrr
    obtain ⟨b, f1, f2, f3⟩ := o1.cel 0 _ q0
    subst f2
    have hv : u = V.str x := h1
    exact ⟨x, b, ns, ns', r, z, G, S1, ρ1, hv, o1, q0, hob, hF, of_decide_eq_true hrr.1, of_decide_eq_true hrr.2, hz, hq.1, hq.2, fun S2 H2 e2 o2 => p1 S2 H2 _ e2 o2 rfl⟩
  · obtain ⟨hk1, v', H1, I1, r1, x, b, ns, ns', r, z, G1, S1, ρ1, rfl, o1, hq0, hob, hF, h00, h11, hz, hyz, hb, fin⟩ := q
    obtain ⟨tx, rfl⟩ := _root_.id r1
    refine ⟨"str", _, F.plainAttrs_str, F.slot_str_replace, F.type_str_replace, typeIs_str _ _ _, (fun _ e => nomatch e), Calls.callWith_builtin rfl (Calls.evalArgs_plain (Calls.spliced_cons (Calls.Constant_str (Calls.spliced_cons ?_))))⟩
    have I2 := I1.tok (s1.toks + 1)
    obtain ⟨b', f1, f2, f3⟩ := o1.cel 0 _ hq0
    cases f2
    refine wpAny_Call_Name_kw (ld_glob I2 hg hm ?_ hdb)
    refine PySem.W.callWith_K (h₀ := X.base) I2.ok.mod.kin hk ?_ rfl rfl
    show wpAny _ _ (spliced [(false, eval (.Name bx pb) X.env), (false, eval (.List [.Constant (.str z0) j0 q0, .Constant (.str z1) j1 q1, .Constant (.str z2) j2 q2, .Constant (.str z3) j3 q3] lp) X.env)]) _ _ _
    refine Calls.spliced_cons (raw_name hNb hvb I2 f1 (fun vb rb => ?_) db cb)
    obtain rfl : vb = Value.ref b := rb
    refine Calls.spliced_cons (wpAny_List_spliced ?_)
    show wpAny _ _ (spliced [(false, eval (.Constant (.str z0) j0 q0) X.env), (false, eval (.Constant (.str z1) j1 q1) X.env), (false, eval (.Constant (.str z2) j2 q2) X.env), (false, eval (.Constant (.str z3) j3 q3) X.env)]) _ _ _
    refine Calls.spliced_cons (Calls.Constant_str (Calls.spliced_cons (Calls.Constant_str (Calls.spliced_cons (Calls.Constant_str (Calls.spliced_cons (Calls.Constant_str (Calls.spliced_nil ?_))))))))
    have h4 : (4 : Nat) ≤ sizeLine := by decide
    refine ⟨h4, Calls.spliced_nil ?_⟩
    have hn : H1 s1.heap.objs.size = none := I1.hok.fresh (Nat.le_refl _)
    obtain ⟨t, hpick, htk⟩ : ∃ t, [Value.str z0 (s1.toks + 1), .str z1 (s1.toks + 1 + 1), .str z2 (s1.toks + 1 + 1 + 1), .str z3 (s1.toks + 1 + 1 + 1 + 1)][r.toNat]? = some (.str z t) ∧ s1.toks < t := by
      revert hz
      generalize r.toNat = i
      intro hz
      match i, hz with
      | 0, hz => cases hz; exact ⟨_, rfl, by omega⟩
      | 1, hz => cases hz; exact ⟨_, rfl, by omega⟩
      | 2, hz => cases hz; exact ⟨_, rfl, by omega⟩
      | 3, hz => cases hz; exact ⟨_, rfl, by omega⟩
    have I3 : Inv X pins σ (upd H1 s1.heap.objs.size (.frz { cls := .type "list", data := .seq [Value.str z0 (s1.toks + 1), .str z1 (s1.toks + 1 + 1), .str z2 (s1.toks + 1 + 1 + 1), .str z3 (s1.toks + 1 + 1 + 1 + 1)].toArray } (.lst [.str z0, .str z1, .str z2, .str z3])))
        { s1 with heap := s1.heap.push { cls := .type "list", data := .seq [Value.str z0 (s1.toks + 1), .str z1 (s1.toks + 1 + 1), .str z2 (s1.toks + 1 + 1 + 1), .str z3 (s1.toks + 1 + 1 + 1 + 1)].toArray }, toks := s1.toks + 1 + 1 + 1 + 1 + 1 } :=
      I1.laid (t' := s1.toks + 1 + 1 + 1 + 1 + 1) (fun _ _ e => Heap.get?_push_of_some _ e) (Nat.le_refl _) ⟨Heap.get?_push_size _ rfl, h4, _, 0, .cons ⟨_, rfl⟩ (.cons ⟨_, rfl⟩ (.cons ⟨_, rfl⟩ (.cons ⟨_, rfl⟩ .nil))), Heap.get?_push_size _ rfl⟩
    have sh3 := o1.sh.skip (o := .frz { cls := .type "list", data := .seq [Value.str z0 (s1.toks + 1), .str z1 (s1.toks + 1 + 1), .str z2 (s1.toks + 1 + 1 + 1), .str z3 (s1.toks + 1 + 1 + 1 + 1)].toArray } (.lst [.str z0, .str z1, .str z2, .str z3])) hn
    have nb : b ≠ s1.heap.objs.size := fun z => by rw [z, hn] at f3; cases f3
    refine ⟨I3.kIn, wpAny_call (codeAny_mono (Rn X.A X.stack _ S1 _ b s1.heap.objs.size ns ns' r _ [.str z0, .str z1, .str z2, .str z3] _ 0 (.str z t) (.str z) (fun H' => ∃ S', Same S1 S' ∧ Ok X.K T (.bx b) G1 S' σ (ρ1.set 0 (.b ns')) H') hr I3.env0 sh3 (o1.gb b rfl).2 (by rw [upd_ne nb]; exact f3) upd_same rfl rfl rfl (by show 4 ≤ 1000; decide) hF h00 h11 hpick ⟨t, rfl⟩ fun S' H' x2 => ?_) fun q s' hq => ?_)⟩
    · refine ⟨S', x2.s, o1.extB ⟨x2.s, fun c o hc q n => x2.h c o hc (by rw [upd_ne (ne_of_none q hn)]; exact q) n, fun c ps hc q => x2.ht c ps hc (by rw [upd_ne (ne_of_none q hn)]; exact q), x2.bx, x2.sh, fun c o q n z => x2.fr c o (by rw [upd_ne (ne_of_none q hn)]; exact q) n z⟩ hq0 hob⟩
    · cases q with
      | error e => exact passL pins σ _ _ e s' I3 hq
      | ok fl =>
        cases fl with
        | ret u' =>
          obtain ⟨rfl, ce⟩ := hq
          obtain ⟨v2, H2, I4, _, S2, e2, o2⟩ := I3.after ce
          refine Calls.spliced_nil ?_
          have n0 : s1.toks ≠ 0 := by omega
          have n1 : t ≠ 0 := Nat.ne_of_gt (Nat.lt_of_le_of_lt (Nat.zero_le _) htk)
          have n2 : s1.toks ≠ t := Nat.ne_of_lt htk
          exact PySem.SC.replace n0 n1 n2 hyz hb fun t' k => ⟨.str (Txt.replace x y z), H2, I4.tok k, ⟨t', rfl⟩, fin S2 H2 e2 o2⟩
        | next => exact False.elim hq
        | brk => exact False.elim hq
        | cont => exact False.elim hq
end
/-! #### an if whose test writes a number: in its body a token is out -/
section
variable {X : Cx} {T : Tb} {W : WX} {a c e : Expr} {fa fe : Rho → R VD} {ft : Rho → R Bool} {g h : Rho → O} {as bs : List Stmt} {pos : Pos}
def XT1 (X : Cx) (T : Tb) (W : WX) (c : Expr) (f : Rho → R Bool) : Prop := ∀ (pins : List (Addr × Obj)) (s : Shared) (σ : L2.St) (H : Hp) (Q : Bool → Hp → Prop), Inv X pins σ H s → rT X.K T W f σ H Q →
  wpAny (model X.prog X.w) X.A (isTrue c X.env (eval c X.env)) (fun d s1 => 1 ≤ s1.toks ∧ ∃ H1, Inv X pins σ H1 s1 ∧ Q d H1) X.xe s
theorem xt1_cmp {op : CmpOp} {r : R2} {gd : D → D → Option D} {n : Int} {j : Nat} {cp : Pos} (ho : OpR X (compareOp op) r) (hp : Prim2 X.K T r gd) (ha : XE X T W a fa) (hm : behindInMarks op (.Constant (.int n) j cp) = false := by first | exact nomark _ | rfl) :
    XT1 X T W (.Compare a [op] [.Constant (.int n) j cp] pos) (valT (op2E gd fa (constE (.int n)))) := by
  intro pins s σ H Q I h
  have h' := valT_of (t := tOp r (rE X.K T W fa) (rE X.K T W (constE (.int n)))) (fun _ q => tOp_of hp q) h
  refine wpAny_isTrue_Compare1 (thn (ha.run pins s σ H _ I h') fun v s1 ⟨x, H1, I1, r1, q1⟩ => ?_) hm
  have q2 := const_of (K := X.K) (d := .int n) (v := V.int n) (fun _ => rfl) q1
  refine wpAny_Constant_int ?_
  refine wpAny_mono (PySem.wpAny_toks (ho pins _ σ H1 x (.int n) v _ _ (I1.tok (s1.toks + 1)) r1 ⟨s1.toks, rfl⟩ q2)) (fun u s2 q => ?_) fun _ _ z => z.2
  obtain ⟨hk, z, H2, I2, r2, b, e, q3⟩ := q
  subst e
  cases r2
  have hk : s1.toks + 1 ≤ s2.toks := hk
  exact wpAny_truthy_bool ⟨by omega, H2, I2, q3⟩
theorem psst_imp {rest : List Stmt} {t t' : TS} (h : PSsT X rest t) (i : ∀ D σ H, t' D σ H → t D σ H) : PSsT X rest t' := fun pins s σ H D h0 I w => h pins s σ H D h0 I (i D σ H w)
theorem xst_ret (he : XET X T W e fe) : PSsT X [.Return (some e) pos] (rS X.K T W (retS fe)) := psst_imp (CwR.psst_one (CwR.pst_ret he)) fun De σ H q => by
  obtain ⟨β, G, S, ρ, o, p⟩ := q
  exact ⟨β, G, S, ρ, o, PostS.thn (Rl := RpV X.K T σ) p fun S1 H1 ρ1 v u e1 o1 h1 p1 => p1 S1 σ H1 u (Same.refl _) o1 h1⟩
theorem xs_if1 (hc : XT1 X T W c ft) (ha : PSsT X as (rS X.K T W g)) (hb : XB X T W bs h) : XS X T W (.If c as bs pos) (ifS ft g h) := ⟨fun pins s σ H D I q => by
  have w : rT X.K T W ft σ H (fun b H1 => if b = true then rS X.K T W g D σ H1 else rS X.K T W h D σ H1) := by
    obtain ⟨β, G, S, ρ, o, p⟩ := q
    refine ⟨β, G, S, ρ, o, PostS.thn (Rl := fun _ (b c : Bool) => b = c) p fun S1 H1 ρ1 v u e1 o1 h1 p1 => ?_⟩
    subst h1
    cases v with
    | true => exact iteT ⟨β, G, S1, ρ1, o1, p1⟩
    | false => exact iteF ⟨β, G, S1, ρ1, o1, p1⟩
  refine wpAny_If (wpAny_mono (hc pins s σ H _ I w) (fun d s1 q1 => ?_) fun _ _ z => z)
  obtain ⟨hk, H1, I1, q2⟩ := q1
  cases d with
  | true => exact ha pins s1 σ H1 D hk I1 (by rw [if_pos rfl] at q2; exact q2)
  | false => exact hb.run pins s1 σ H1 D I1 (by rw [if_neg (by decide)] at q2; exact q2)⟩
end
/-! #### e.split("..") as a list of its own -/
def PrimSF (K : PySem.W.Frag) (T : Tb) (r : V → List V → Hp → VK → Prop) (g : Str → List D → Option (List D)) : Prop := ∀ S H s xs ds d Q, SameT T S H → RpHs K T S H ds xs → g s ds = some d → Gf K T S H d Q → r (.str s) xs H Q
def strMF (g : Str → List D → Option (List D)) (fo : Rho → R VD) (fs : Rho → R (List VD)) : Rho → R (List D) := fun ρ => (fo ρ).bind fun (v : VD) (ρ1 : Rho) => match v with
  | .d (.str s) => (fs ρ1).bind fun vs ρ2 => (match resAll vs ρ2 with | some xs => (match g s xs with | some d => .ok d ρ2 | none => .bad) | none => .bad)
  | _ => .bad
section
variable {X : Cx} {T : Tb} {W : WX} {o e : Expr} {es : List Expr} {fo : Rho → R VD} {fs : Rho → R (List VD)}
theorem xf_strM {name : Str} {id : String} {r : V → List V → Hp → VK → Prop} {g : Str → List D → Option (List D)} {apos cpos : Pos} (slot : Slot "str" name id) (hty : typeOf (.builtin id) = pure (.type "method_descriptor")) (hm : MtR X id r) (hp : PrimSF X.K T r g) (ho : XE X T W o fo) (ha : XA X T W (e :: es) fs)
    (hbase : attributeBase o name X.env (eval o X.env) = eval o X.env := by rfl)
    (hfew : ((backTo cpos (starEach (e :: es) X.env)).all (fun x => !x.1) && (backToKw cpos (keywordEach [] X.env)).all (fun x => x.1.isSome) && decide ((e :: es).length + ([] : List Keyword).length + (if ([] : List Keyword).isEmpty then 0 else 1) < 30)) = true := by rfl)
    (hline : (apos.endLine == cpos.line) = true := by rfl) (hs : starEach (e :: es) X.env = (false, eval e X.env) :: starEach es X.env := by rfl) (hplain : (backTo cpos (starEach es X.env)).any (·.1) = false := by rfl) :
    XF X T W (.Call (.Attribute o name apos) (e :: es) [] cpos) (strMF g fo fs) :=
  (pe_bm PySem.F.plainAttrs_str slot hty hm ho ha hbase hfew hline hs hplain).impQ fun σ H Q h => by
    obtain ⟨β, G, S, ρ, o, p⟩ := h
    refine ⟨β, G, S, ρ, o, PostF.thn (Rl := RpV X.K T σ) p fun S1 H1 ρ1 v u e1 o1 h1 p1 => ?_⟩
    split at p1
    · rename_i s
      rw [show u = .str s from h1]
      refine ⟨rfl, β, G, S1, ρ1, o1, PostF.thn (Rl := RpVs X.K T σ) p1 fun S2 H2 ρ2 vs us e2 o2 h2 p2 => ?_⟩
      split at p2
      · rename_i xs q
        split at p2
        · rename_i d q2
          exact hp S2 H2 s us xs d Q o2.sh (o2.resAll h2 q) q2 (p2.gf o2)
        · exact p2.elim
      · exact p2.elim
    · exact p1.elim
def splitF (s : Str) : List D → Option (List D)
  | [.str b] => if !(b.length == 0) && fits s.length then some ((Txt.split s b).map D.str) else none
  | _ => none
theorem p_splitF {K : PySem.W.Frag} : PrimSF K T (fun x xs H Q => ∃ a b, x = .str a ∧ xs = [.str b] ∧ (b.length == 0) = false ∧ a.length + 2 ≤ sizeLine ∧ rNewStrs (Txt.split a b) H Q) splitF := fun S H s xs ds d Q e h hg g => by
  unfold splitF at hg
  split at hg
  · split at hg
    · rename_i hb
      cases hg
      rw [Bool.and_eq_true, Bool.not_eq_true'] at hb
      obtain ⟨u, rfl, hu⟩ := h.one
      rw [hu.str]
      exact ⟨s, _, rfl, rfl, hb.1, fits_two hb.2, fun p hp => g.new e (Rps.strs _) p hp⟩
    · cases hg
  · cases hg
end
end Lq
namespace Lw
open PySem PySem.Spec PyProof.Rows L2 Lq
def topS (i : Nat) : Stmt := PySem.Challenge.pw_heirturns_k02_wrong_texts_of_runs.main.body.getD i (.Pass ⟨0, 0, 0, 0⟩)
abbrev s_number_in : Stmt := topS 5
abbrev s_run_in : Stmt := topS 12
abbrev s_runs_from : Stmt := topS 13
abbrev s_law_box : Stmt := topS 15
abbrev s_law_take : Stmt := topS 16
abbrev s_law_cells : Stmt := topS 17
abbrev s_law_of : Stmt := topS 18
abbrev s_law_same : Stmt := topS 19
abbrev s_law_bits : Stmt := topS 20
abbrev s_law_bit_words : Stmt := topS 21
abbrev s_law_heard : Stmt := topS 22
abbrev s_law_by_hand_right : Stmt := topS 23
abbrev s_law_bent : Stmt := topS 24
abbrev s_law_case_right : Stmt := topS 25
abbrev s_law_right : Stmt := topS 26
abbrev s_law : Stmt := topS 27
abbrev si_BadText : Stmt := clsAt (topS 2) 0
/-- what stands behind the top -/
structure Tx (K : PySem.W.Frag) (mg : Str → Option Value) (T : Tb) where
  a_number_in : Addr
  d_number_in : FuncData
  F_number_in : Fun K "number_in" "number_in" s_number_in a_number_in d_number_in
  g_number_in : mg "number_in" = some (.ref a_number_in)
  a_run_in : Addr
  d_run_in : FuncData
  F_run_in : Fun K "run_in" "run_in" s_run_in a_run_in d_run_in
  g_run_in : mg "run_in" = some (.ref a_run_in)
  a_runs_from : Addr
  d_runs_from : FuncData
  F_runs_from : Fun K "runs_from" "runs_from" s_runs_from a_runs_from d_runs_from
  g_runs_from : mg "runs_from" = some (.ref a_runs_from)
  a_law_box : Addr
  d_law_box : FuncData
  F_law_box : Fun K "_law_box" "_law_box" s_law_box a_law_box d_law_box
  g_law_box : mg "_law_box" = some (.ref a_law_box)
  a_law_take : Addr
  d_law_take : FuncData
  F_law_take : Fun K "_law_take" "_law_take" s_law_take a_law_take d_law_take
  g_law_take : mg "_law_take" = some (.ref a_law_take)
  a_law_cells : Addr
  d_law_cells : FuncData
  F_law_cells : Fun K "_law_cells" "_law_cells" s_law_cells a_law_cells d_law_cells
  g_law_cells : mg "_law_cells" = some (.ref a_law_cells)
  a_law_of : Addr
  d_law_of : FuncData
  F_law_of : Fun K "_law_of" "_law_of" s_law_of a_law_of d_law_of
  g_law_of : mg "_law_of" = some (.ref a_law_of)
  a_law_same : Addr
  d_law_same : FuncData
  F_law_same : Fun K "_law_same" "_law_same" s_law_same a_law_same d_law_same
  g_law_same : mg "_law_same" = some (.ref a_law_same)
  a_law_bits : Addr
  d_law_bits : FuncData
  F_law_bits : Fun K "_law_bits" "_law_bits" s_law_bits a_law_bits d_law_bits
  g_law_bits : mg "_law_bits" = some (.ref a_law_bits)
  a_law_bit_words : Addr
  d_law_bit_words : FuncData
  F_law_bit_words : Fun K "_law_bit_words" "_law_bit_words" s_law_bit_words a_law_bit_words d_law_bit_words
  g_law_bit_words : mg "_law_bit_words" = some (.ref a_law_bit_words)
  a_law_heard : Addr
  d_law_heard : FuncData
  F_law_heard : Fun K "_law_heard" "_law_heard" s_law_heard a_law_heard d_law_heard
  g_law_heard : mg "_law_heard" = some (.ref a_law_heard)
  a_law_by_hand_right : Addr
  d_law_by_hand_right : FuncData
  F_law_by_hand_right : Fun K "_law_by_hand_right" "_law_by_hand_right" s_law_by_hand_right a_law_by_hand_right d_law_by_hand_right
  g_law_by_hand_right : mg "_law_by_hand_right" = some (.ref a_law_by_hand_right)
  a_law_bent : Addr
  d_law_bent : FuncData
  F_law_bent : Fun K "_law_bent" "_law_bent" s_law_bent a_law_bent d_law_bent
  g_law_bent : mg "_law_bent" = some (.ref a_law_bent)
  a_law_case_right : Addr
  d_law_case_right : FuncData
  F_law_case_right : Fun K "_law_case_right" "_law_case_right" s_law_case_right a_law_case_right d_law_case_right
  g_law_case_right : mg "_law_case_right" = some (.ref a_law_case_right)
  a_law_right : Addr
  d_law_right : FuncData
  F_law_right : Fun K "_law_right" "_law_right" s_law_right a_law_right d_law_right
  g_law_right : mg "_law_right" = some (.ref a_law_right)
  a_law : Addr
  d_law : FuncData
  F_law : Fun K "law" "law" s_law a_law d_law
  g_law : mg "law" = some (.ref a_law)
  fI_BadText : Addr
  fd_BadText : FuncData
  E_BadText : EC K mg "BadText" "piece" (T 1) fI_BadText
  FI_BadText : Fun K "__init__" "BadText.__init__" si_BadText fI_BadText fd_BadText
  ex_BadText_BadText : PySem.W.exmOne K (.ref (T 1)) (.ref (T 1)) = some true
  z_abs : mg "abs" = none
  z_all : mg "all" = none
  z_bool : mg "bool" = none
  z_enumerate : mg "enumerate" = none
  z_int : mg "int" = none
  z_isinstance : mg "isinstance" = none
  z_len : mg "len" = none
  z_list : mg "list" = none
  z_range : mg "range" = none
  z_str : mg "str" = none
  z_tuple : mg "tuple" = none
  z_zip : mg "zip" = none
  c_DIGITS : ∃ t, mg "DIGITS" = some (.str "0123456789" t)
  c_BLANK : ∃ t, mg "BLANK" = some (.str " " t)
  c_PAIR : ∃ t, mg "PAIR" = some (.int 2 t)
  c_HEIRS : ∃ (a : Addr) (o : Obj) (its : Array Value) (n : Nat), mg "HEIRS" = some (.ref a) ∧ K.lookup a = some o ∧ o.cls = .type "tuple" ∧ o.data = .seq its n ∧ its.size ≤ sizeLine ∧ Vals [V.str "a", V.str "b"] its.toList
  c_NOTHING : ∃ t, mg "NOTHING" = some (.str "-" t)
  c_BETWEEN : ∃ t, mg "BETWEEN" = some (.str "; " t)
section
variable {P : Program} {w : World} {K : PySem.W.Frag} {mg : Str → Option Value} {base : Heap} {T : Tb}
theorem sci_BadText : FnScope ["self", "piece"] ["self", "piece"] (defScope si_BadText) := ⟨rfl, rfl, rfl, by decide +kernel, rfl, by decide +kernel, by decide +kernel⟩
theorem bI_BadText (tx : Tx K mg T) : Binds K tx.fd_BadText ["self", "piece"] [] := tx.FI_BadText.binds fun _ _ _ _ _ _ us hl => match us, hl with | [_, _], _ => rfl
theorem in_BadText (tx : Tx K mg T) : FnOk P w K mg base (L2.CX P w) 1 tx.fI_BadText tx.fd_BadText ["self", "piece"] (spIn K (T 1) "piece") := fn_in1 tx.FI_BadText sci_BadText rfl tx.E_BadText.ox tx.E_BadText.noF (fun _ _ _ _ _ _ => pss_one (ps_ost (pv 0) (pv 1)))
theorem hx_BadText (tx : Tx K mg T) : ∀ t b, List.lookup t ([(1, true)] : List (Nat × Bool)) = some b → PySem.W.exmOne K (.ref (T t)) (.ref (T 1)) = some b := (exs_cons tx.ex_BadText_BadText exs_nil)
theorem xe_DIGITS {X : Cx} {W : WX} {pos : Pos} (tx : Tx X.K X.mg T) (hg : L2.Gl X "DIGITS" := by rfl) : XE X T W (.Name "DIGITS" pos) (constE (.str "0123456789")) := by
  obtain ⟨t, e⟩ := tx.c_DIGITS
  exact xe_glob (v := (.str "0123456789")) hg e ⟨t, rfl⟩ (fun _ => rfl)
theorem xe_BLANK {X : Cx} {W : WX} {pos : Pos} (tx : Tx X.K X.mg T) (hg : L2.Gl X "BLANK" := by rfl) : XE X T W (.Name "BLANK" pos) (constE (.str " ")) := by
  obtain ⟨t, e⟩ := tx.c_BLANK
  exact xe_glob (v := (.str " ")) hg e ⟨t, rfl⟩ (fun _ => rfl)
theorem xe_PAIR {X : Cx} {W : WX} {pos : Pos} (tx : Tx X.K X.mg T) (hg : L2.Gl X "PAIR" := by rfl) : XE X T W (.Name "PAIR" pos) (constE (.int (2))) := by
  obtain ⟨t, e⟩ := tx.c_PAIR
  exact xe_glob (v := (.int (2))) hg e ⟨t, rfl⟩ (fun _ => rfl)
theorem xe_HEIRS {X : Cx} {W : WX} {pos : Pos} (tx : Tx X.K X.mg T) (hg : L2.Gl X "HEIRS" := by rfl) : XE X T W (.Name "HEIRS" pos) (constE (.tup [(.str "a"), (.str "b")])) := by
  obtain ⟨a, o, its, n, e, hk, hc, hd, hz, hv⟩ := tx.c_HEIRS
  exact xe_glob (v := .ref a) hg e rfl (fun S => rp_kstrs (ss := ["a", "b"]) hk hc hd hz hv S)
theorem xe_NOTHING {X : Cx} {W : WX} {pos : Pos} (tx : Tx X.K X.mg T) (hg : L2.Gl X "NOTHING" := by rfl) : XE X T W (.Name "NOTHING" pos) (constE (.str "-")) := by
  obtain ⟨t, e⟩ := tx.c_NOTHING
  exact xe_glob (v := (.str "-")) hg e ⟨t, rfl⟩ (fun _ => rfl)
theorem xe_BETWEEN {X : Cx} {W : WX} {pos : Pos} (tx : Tx X.K X.mg T) (hg : L2.Gl X "BETWEEN" := by rfl) : XE X T W (.Name "BETWEEN" pos) (constE (.str "; ")) := by
  obtain ⟨t, e⟩ := tx.c_BETWEEN
  exact xe_glob (v := (.str "; ")) hg e ⟨t, rfl⟩ (fun _ => rfl)
/-! #### number_in -/
theorem sc_number_in : FnScope ["word", "sign"] ["word"] (defScope s_number_in) := ⟨rfl, rfl, rfl, by decide +kernel, rfl, by decide +kernel, by decide +kernel⟩
theorem b_number_in (tx : Tx K mg T) : Binds K tx.d_number_in ["word"] [] := tx.F_number_in.binds fun _ _ _ _ _ _ us hl => match us, hl with | [_], _ => rfl
def m_number_in_e1 : Rho → R VD := (op2E inD (nameE 1) (constE (.str "0123456789")))
def m_number_in_c1 : Rho → R (List D) := (compF [1] (seqI (nameE 0)) (nameG 1) yesT m_number_in_e1)
def m_number_in : Rho → O := (seqS (ifS (orT (valT (op2E eqD (nameE 0) (constE (.str "")))) (orT (notT (valT (opNE allD (consA (frzE m_number_in_c1) nilA)))) (andT (valT (op2E eqD (op2E atD (nameE 0) (constE (.int 0))) (constE (.str "0")))) (valT (op2E neD (nameE 0) (constE (.str "0"))))))) (retS (constE .non)) nextS)
  (retS (opNE intD (consA (nameE 0) nilA))))
def f_number_in : List D → Res := runF 1 2 m_number_in
theorem ok_number_in (tx : Tx K mg T) : FnOk P w K mg base (L2.CX P w) 1 tx.a_number_in tx.d_number_in ["word"] (spP K T 1 f_number_in) :=
    fn_pure tx.F_number_in sc_number_in (by decide) fun cdv A outer s H E hr tk hp =>
      (xb_cons (xs_if (XW.xt (xw_or (xt_cmp (op_eqA hr.units) p_eq (xe_name 0) xe_str) (xw_or (xt_not (xt_val (xe_callB (cr_all rfl) p_all tx.z_all (by decide +kernel) (xa_cons (XF.xe (xf_lc rfl sc_number_in.nd (xi_seq (xe_name 0)) (blkOk_by (own := [("sign", 1)]) (by kernel_rfl)) (fun _ _ _ _ _ => (xgo_name 1 sc_number_in.nd)) (fun _ _ _ _ _ => xts_nil) (fun _ _ _ _ _ => (xe_cmp op_inA p_in (xe_name 1) (xe_DIGITS tx))))) xa_nil)))) (xw_or1 (XW.xt (xw_and (xt_cmp (op_eqA hr.units) p_eq (xe_ix ix_seq p_ix (xe_name 0) xe_int) xe_str) (xw_and1 (xt_cmp (op_neA hr.units) p_ne (xe_name 0) xe_str)))))))) (xb_one (xs_ret xe_non)) xb_nil)
      (xb_one (xs_ret (xe_callTy call_intA p_int tx.z_int (by decide +kernel) (xa_cons (xe_name 0) xa_nil)))))
/-! #### run_in -/
theorem sc_run_in : FnScope ["piece", "words"] ["piece"] (defScope s_run_in) := ⟨rfl, rfl, rfl, by decide +kernel, rfl, by decide +kernel, by decide +kernel⟩
theorem b_run_in (tx : Tx K mg T) : Binds K tx.d_run_in ["piece"] [] := tx.F_run_in.binds fun _ _ _ _ _ _ us hl => match us, hl with | [_], _ => rfl
def m_run_in : Rho → O := (seqS (asgS 1 (strM splitD (nameE 0) (consA (constE (.str " ")) nilA)))
  (seqS (ifS (orT (valT (op2E neD (opNE lenD (consA (nameE 1) nilA)) (constE (.int (2))))) (orT (valT (op2E ninD (op2E atD (nameE 1) (constE (.int 0))) (constE (.tup [(.str "a"), (.str "b")])))) (valT (op2E inD (callE f_number_in (consA (op2E atD (nameE 1) (constE (.int 1))) nilA)) (tupE (consA (constE .non) (consA (constE (.int 0)) nilA))))))) (retS (constE .non)) nextS)
  (retS (tupE (consA (op2E atD (nameE 1) (constE (.int 0))) (consA (callE f_number_in (consA (op2E atD (nameE 1) (constE (.int 1))) nilA)) nilA))))))
def f_run_in : List D → Res := runF 1 2 m_run_in
theorem ok_run_in (tx : Tx K mg T) : FnOk P w K mg base (L2.CX P w) 2 tx.a_run_in tx.d_run_in ["piece"] (spP K T 1 f_run_in) :=
    fn_pure tx.F_run_in sc_run_in (by decide) fun cdv A outer s H E hr tk hp =>
      (xb_cons (xs_set 1 sc_run_in.nd (xe_strM PySem.F.slot_str_split PySem.F.type_str_split mt_split p_split (xe_name 0) (xa_cons (xe_BLANK tx) xa_nil)))
      (xb_cons (xs_if (XW.xt (xw_or (xt_cmp (op_neA hr.units) p_ne (xe_callB call_len p_len tx.z_len (by decide +kernel) (xa_cons (xe_name 1) xa_nil)) (xe_PAIR tx)) (xw_or (xt_cmp op_ninA p_nin (xe_ix ix_seq p_ix (xe_name 1) xe_int) (xe_HEIRS tx)) (xw_or1 (xt_cmp op_inA p_in (xe_call (ok_number_in tx) (hr.mono (by decide)) tx.g_number_in tx.F_number_in.kp (b_number_in tx) tk runF_len (xa_cons (xe_ix ix_seq p_ix (xe_name 1) xe_int) xa_nil)) (xe_tup (xa_cons xe_non (xa_cons xe_int xa_nil)))))))) (xb_one (xs_ret xe_non)) xb_nil)
      (xb_one (xs_ret (xe_tup (xa_cons (xe_ix ix_seq p_ix (xe_name 1) xe_int) (xa_cons (xe_call (ok_number_in tx) (hr.mono (by decide)) tx.g_number_in tx.F_number_in.kp (b_number_in tx) tk runF_len (xa_cons (xe_ix ix_seq p_ix (xe_name 1) xe_int) xa_nil)) xa_nil)))))))
/-! #### runs_from -/
theorem sc_runs_from : FnScope ["text", "found", "place", "piece", "run"] ["text"] (defScope s_runs_from) := ⟨rfl, rfl, rfl, by decide +kernel, rfl, by decide +kernel, by decide +kernel⟩
theorem b_runs_from (tx : Tx K mg T) : Binds K tx.d_runs_from ["text"] [] := tx.F_runs_from.binds fun _ _ _ _ _ _ us hl => match us, hl with | [_], _ => rfl
def m_runs_from_g1 : D → Rho → Option Rho := (tupG 2 (consG (nameG 2) (consG (nameG 3) nilG)))
def m_runs_from_b1 : Rho → O := (seqS (asgS 4 (callE f_run_in (consA (nameE 3) nilA)))
  (seqS (ifS (orT (valT (op2E isD (nameE 4) (constE .non))) (andT (valT (op2E gtD (opNE lenD (consA (nameE 1) nilA)) (constE (.int 0)))) (valT (op2E eqD (op2E atD (nameE 4) (constE (.int 0))) (op2E atD (op2E atD (nameE 1) (op1E negD (constE (.int 1)))) (constE (.int 0))))))) (raiseS 1 (consA (nameE 2) nilA)) nextS)
  (dropS (appE 1 (consA (nameE 4) nilA)))))
def m_runs_from_l1 : Rho → O := (forS (enumA (consA (ifE (valT (op2E neD (nameE 0) (constE (.str "-")))) (strM splitD (nameE 0) (consA (constE (.str "; ")) nilA)) (frzE (lstF nilA))) nilA)) m_runs_from_g1 m_runs_from_b1)
def m_runs_from : Rho → O := (seqS (asgM 1 (lstF nilA))
  (seqS m_runs_from_l1
  (retS (opNE tupleTD (consA (nameE 1) nilA)))))
def f_runs_from : List D → Res := runF 1 5 m_runs_from
theorem ok_runs_from (tx : Tx K mg T) : FnOk P w K mg base (L2.CX P w) 3 tx.a_runs_from tx.d_runs_from ["text"] (spP K T 1 f_runs_from) :=
    fn_pure tx.F_runs_from sc_runs_from (by decide) fun cdv A outer s H E hr tk hp =>
      (xb_cons (xs_setM 1 sc_runs_from.nd (xf_lst xa_nil))
      (xb_cons (xs_for hp rfl (xi_enumA tx.z_enumerate (xa_cons (xe_if (xt_cmp (op_neA hr.units) p_ne (xe_name 0) (xe_NOTHING tx)) (xe_strM PySem.F.slot_str_split PySem.F.type_str_split mt_split p_split (xe_name 0) (xa_cons (xe_BETWEEN tx) xa_nil)) (XF.xe (xf_lst xa_nil))) xa_nil)) (xg_tup rfl (xgs_cons (xg_name 2 sc_runs_from.nd) (xgs_cons (xg_name 3 sc_runs_from.nd) xgs_nil))) (xb_cons (xs_set 4 sc_runs_from.nd (xe_call (ok_run_in tx) (hr.mono (by decide)) tx.g_run_in tx.F_run_in.kp (b_run_in tx) tk runF_len (xa_cons (xe_name 3) xa_nil)))
      (xb_cons (xs_if (XW.xt (xw_or (xt_cmp op_isN p_is (xe_name 4) xe_non) (xw_or1 (XW.xt (xw_and (xt_cmp op_gt p_gt (xe_callB call_len p_len tx.z_len (by decide +kernel) (xa_cons (xe_name 1) xa_nil)) xe_int) (xw_and1 (xt_cmp (op_eqA hr.units) p_eq (xe_ix ix_seq p_ix (xe_name 4) xe_int) (xe_ix ix_seq p_ix (xe_ix ix_seq p_ix (xe_name 1) (xe_un un_neg p_neg xe_int)) xe_int)))))))) (xb_one (xs_raise1 (t := 1) rfl tk tx.E_BadText (in_BadText tx) (hr.mono (by decide)) (bI_BadText tx) rfl (xa_cons (xe_name 2) xa_nil))) xb_nil)
      (xb_one (xs_expr (xe_append 1 (xa_cons (xe_name 4) xa_nil)))))))
      (xb_one (xs_ret (xe_callTy (call_tupleA rfl) p_tupleT tx.z_tuple (by decide +kernel) (xa_cons (xe_name 1) xa_nil))))))
/-! #### _law_box -/
theorem sc_law_box : FnScope ["_law_script", "_law_k", "_law_cell"] ["_law_script", "_law_k"] (defScope s_law_box) := ⟨rfl, rfl, rfl, by decide +kernel, rfl, by decide +kernel, by decide +kernel⟩
theorem b_law_box (tx : Tx K mg T) : Binds K tx.d_law_box ["_law_script", "_law_k"] [] := tx.F_law_box.binds fun _ _ _ _ _ _ us hl => match us, hl with | [_, _], _ => rfl
def m_law_box : Rho → O := (seqS (asgS 2 (ifE (valT (op2E ltD (nameE 1) (opNE lenD (consA (nameE 0) nilA)))) (op2E atD (nameE 0) (nameE 1)) (constE (.int 0))))
  (retF (lstF (consA (op2E mulD (opNE absD (consA (nameE 2) nilA)) (opNE intD (consA (op2E geD (opNE absD (consA (nameE 2) nilA)) (op2E powD (constE (.int 10)) (constE (.int 18)))) nilA))) (consA (op2E addD (op2E addD (op2E modD (opNE intD (consA (nameE 2) nilA)) (constE (.int 2305843009213693951))) (op2E mulD (constE (.int 39373)) (nameE 1))) (constE (.int 83002))) (consA (constE (.int 0)) nilA))))))
def f_law_box : List D → Option (List D) := runL 2 3 m_law_box
theorem ok_law_box (tx : Tx K mg T) : FnOk P w K mg base (L2.CX P w) 1 tx.a_law_box tx.d_law_box ["_law_script", "_law_k"] (spL K T 2 f_law_box) :=
    fn_new tx.F_law_box sc_law_box fun cdv A outer s H E hr hp =>
      (xb_cons (xs_set 2 sc_law_box.nd (xe_if (xt_cmp op_ltA p_lt (xe_name 1) (xe_callB call_len p_len tx.z_len (by decide +kernel) (xa_cons (xe_name 0) xa_nil))) (xe_ix ix_seq p_ix (xe_name 0) (xe_name 1)) xe_int))
      (xb_one (xs_retF (xf_lst (xa_cons (xe_op op_mulA p_mul (xe_callB call_abs p_abs tx.z_abs (by decide +kernel) (xa_cons (xe_name 2) xa_nil)) (xe_callTy call_intA p_int tx.z_int (by decide +kernel) (xa_cons (xe_cmp op_ge p_ge (xe_callB call_abs p_abs tx.z_abs (by decide +kernel) (xa_cons (xe_name 2) xa_nil)) (xe_op op_pow p_pow xe_int xe_int)) xa_nil))) (xa_cons (xe_op op_addA p_add (xe_op op_addA p_add (xe_op op_mod p_mod (xe_callTy call_intA p_int tx.z_int (by decide +kernel) (xa_cons (xe_name 2) xa_nil)) xe_int) (xe_op op_mulA p_mul xe_int (xe_name 1))) xe_int) (xa_cons xe_int xa_nil)))))))
/-! #### _law_take -/
theorem sc_law_take : FnScope ["_law_box_here", "_law_size_so", "_law_some", "_law_once", "_law_far", "_law_again"] ["_law_box_here", "_law_size_so"] (defScope s_law_take) := ⟨rfl, rfl, rfl, by decide +kernel, rfl, by decide +kernel, by decide +kernel⟩
theorem b_law_take (tx : Tx K mg T) : Binds K tx.d_law_take ["_law_box_here", "_law_size_so"] [] := tx.F_law_take.binds fun _ _ _ _ _ _ us hl => match us, hl with | [_, _], _ => rfl
def m_law_take : Rho → O := (seqS (ifS (valT (op2E gtD (op2E atD (nameE 0) (constE (.int 0))) (constE (.int 0)))) (seqS (asgS 2 (op2E modD (opNE intD (consA (op2E atD (nameE 0) (constE (.int 0))) nilA)) (nameE 1)))
  (seqS (putItem 0 (op2E fdivD (op2E atD (nameE 0) (constE (.int 0))) (nameE 1)) (constE (.int 0)))
  (retS (nameE 2)))) nextS)
  (seqS (putItem 0 (op2E addD (op2E atD (nameE 0) (constE (.int 2))) (constE (.int 1))) (constE (.int 2)))
  (seqS (asgS 3 (op2E modD (opNE intD (consA (op2E mulD (op2E addD (op2E atD (nameE 0) (constE (.int 1))) (op2E mulD (constE (.int 48271)) (op2E atD (nameE 0) (constE (.int 2))))) (op2E addD (constE (.int 39373)) (op2E atD (nameE 0) (constE (.int 2))))) nilA)) (constE (.int 2147483647))))
  (seqS (asgS 4 (op2E addD (op2E modD (opNE intD (consA (nameE 3) nilA)) (constE (.int 40009))) (constE (.int 7))))
  (seqS (asgS 5 (op2E modD (opNE intD (consA (op2E mulD (op2E addD (op2E addD (nameE 3) (op2E atD (nameE 0) (constE (.int 2)))) (op2E fdivD (op2E atD (nameE 0) (constE (.int 1))) (constE (.int 1000003)))) (nameE 4)) nilA)) (constE (.int 2147483629))))
  (retS (op2E modD (opNE intD (consA (op2E fdivD (op2E modD (opNE intD (consA (op2E addD (op2E mulD (nameE 5) (constE (.int 48271))) (nameE 3)) nilA)) (constE (.int 2147483587))) (constE (.int 64))) nilA)) (nameE 1))))))))
def f_law_take : List Int → List D → Option (D × List Int) := runB 1 5 m_law_take
theorem ok_law_take (tx : Tx K mg T) : FnOk P w K mg base (L2.CX P w) 1 tx.a_law_take tx.d_law_take ["_law_box_here", "_law_size_so"] (spB K T 1 f_law_take) :=
    fn_box tx.F_law_take sc_law_take (by decide) rfl rfl fun cdv A outer s H E hr hp =>
      (by refine (xb_cons ?_ (xb_cons ?_ (xb_cons ?_ (xb_cons ?_ (xb_cons ?_ (xb_one ?_)))))); exact (xs_if (xt_cmp op_gt p_gt (xe_ix ix_seq p_ix (xe_name 0) xe_int) xe_int) (xb_cons (xs_set 2 sc_law_take.nd (xe_op op_mod p_mod (xe_callTy call_intA p_int tx.z_int (by decide +kernel) (xa_cons (xe_ix ix_seq p_ix (xe_name 0) xe_int) xa_nil)) (xe_name 1)))       (xb_cons (xs_item 0 (xe_op op_fdiv p_fdiv (xe_ix ix_seq p_ix (xe_name 0) xe_int) (xe_name 1)) xe_int)       (xb_one (xs_ret (xe_name 2))))) xb_nil); exact (xs_item 0 (xe_op op_addA p_add (xe_ix ix_seq p_ix (xe_name 0) xe_int) xe_int) xe_int); exact (xs_set 3 sc_law_take.nd (xe_op op_mod p_mod (xe_callTy call_intA p_int tx.z_int (by decide +kernel) (xa_cons (xe_op op_mulA p_mul (xe_op op_addA p_add (xe_ix ix_seq p_ix (xe_name 0) xe_int) (xe_op op_mulA p_mul xe_int (xe_ix ix_seq p_ix (xe_name 0) xe_int))) (xe_op op_addA p_add xe_int (xe_ix ix_seq p_ix (xe_name 0) xe_int))) xa_nil)) xe_int)); exact (xs_set 4 sc_law_take.nd (xe_op op_addA p_add (xe_op op_mod p_mod (xe_callTy call_intA p_int tx.z_int (by decide +kernel) (xa_cons (xe_name 3) xa_nil)) xe_int) xe_int)); exact (xs_set 5 sc_law_take.nd (xe_op op_mod p_mod (xe_callTy call_intA p_int tx.z_int (by decide +kernel) (xa_cons (xe_op op_mulA p_mul (xe_op op_addA p_add (xe_op op_addA p_add (xe_name 3) (xe_ix ix_seq p_ix (xe_name 0) xe_int)) (xe_op op_fdiv p_fdiv (xe_ix ix_seq p_ix (xe_name 0) xe_int) xe_int)) (xe_name 4)) xa_nil)) xe_int)); exact (xs_ret (xe_op op_mod p_mod (xe_callTy call_intA p_int tx.z_int (by decide +kernel) (xa_cons (xe_op op_fdiv p_fdiv (xe_op op_mod p_mod (xe_callTy call_intA p_int tx.z_int (by decide +kernel) (xa_cons (xe_op op_addA p_add (xe_op op_mulA p_mul (xe_name 5) xe_int) (xe_name 3)) xa_nil)) xe_int) xe_int) xa_nil)) (xe_name 1))))
/-! #### _law_cells -/
theorem sc_law_cells : FnScope ["_law_script", "_law_top_so", "_law_cells_so", "_law_k", "_law_cell", "_law_at_so"] ["_law_script", "_law_top_so"] (defScope s_law_cells) := ⟨rfl, rfl, rfl, by decide +kernel, rfl, by decide +kernel, by decide +kernel⟩
theorem b_law_cells (tx : Tx K mg T) : Binds K tx.d_law_cells ["_law_script", "_law_top_so"] [] := tx.F_law_cells.binds fun _ _ _ _ _ _ us hl => match us, hl with | [_, _], _ => rfl
def m_law_cells_g1 : D → Rho → Option Rho := (tupG 2 (consG (nameG 3) (consG (nameG 4) nilG)))
def m_law_cells_b1 : Rho → O := (seqS (asgS 5 (op2E modD (opNE intD (consA (nameE 3) nilA)) (nameE 1)))
  (putItem 2 (op2E addD (op2E atD (nameE 2) (nameE 5)) (op2E mulD (nameE 4) (op2E addD (nameE 3) (constE (.int 2))))) (nameE 5)))
def m_law_cells_l1 : Rho → O := (forS (enumA (consA (slE (nameE 0) (aPart (nameE 1)) (aPart (constE (.int 63)))) nilA)) m_law_cells_g1 m_law_cells_b1)
def m_law_cells : Rho → O := (seqS (asgM 2 (orF (opNF listF (consA (slE (nameE 0) noPart (aPart (nameE 1))) nilA)) (lstF (consA (constE (.int 0)) nilA))))
  (seqS m_law_cells_l1
  (retS (nameE 2))))
def f_law_cells : List D → Res := runF 2 6 m_law_cells
theorem ok_law_cells (tx : Tx K mg T) : FnOk P w K mg base (L2.CX P w) 1 tx.a_law_cells tx.d_law_cells ["_law_script", "_law_top_so"] (spP K T 2 f_law_cells) :=
    fn_pure tx.F_law_cells sc_law_cells (by decide) fun cdv A outer s H E hr tk hp =>
      (xb_cons (xs_setM 2 sc_law_cells.nd (xf_or (xf_callTy call_list_of p_list tx.z_list (by decide +kernel) (xa_cons (xe_sl (xe_name 0) xo_none (xo_some (xe_name 1))) xa_nil)) (xf_lst (xa_cons xe_int xa_nil))))
      (xb_cons (xs_for hp rfl (xi_enumA tx.z_enumerate (xa_cons (xe_sl (xe_name 0) (xo_some (xe_name 1)) (xo_some xe_int)) xa_nil)) (xg_tup rfl (xgs_cons (xg_name 3 sc_law_cells.nd) (xgs_cons (xg_name 4 sc_law_cells.nd) xgs_nil))) (xb_cons (xs_set 5 sc_law_cells.nd (xe_op op_mod p_mod (xe_callTy call_intA p_int tx.z_int (by decide +kernel) (xa_cons (xe_name 3) xa_nil)) (xe_name 1)))
      (xb_one (xs_item 2 (xe_op op_addA p_add (xe_ix ix_seq p_ix (xe_name 2) (xe_name 5)) (xe_op op_mulA p_mul (xe_name 4) (xe_op op_addA p_add (xe_name 3) xe_int))) (xe_name 5)))))
      (xb_one (xs_ret (xe_name 2)))))
/-! #### _law_of -/
theorem sc_law_of : FnScope ["_law_box_here", "_law_goods_so"] ["_law_box_here", "_law_goods_so"] (defScope s_law_of) := ⟨rfl, rfl, rfl, by decide +kernel, rfl, by decide +kernel, by decide +kernel⟩
theorem b_law_of (tx : Tx K mg T) : Binds K tx.d_law_of ["_law_box_here", "_law_goods_so"] [] := tx.F_law_of.binds fun _ _ _ _ _ _ us hl => match us, hl with | [_, _], _ => rfl
def m_law_of : Rho → O := (retS (op2E atD (nameE 1) (callBE f_law_take (consA (nameE 0) (consA (opNE lenD (consA (nameE 1) nilA)) nilA)))))
def f_law_of : List Int → List D → Option (D × List Int) := runB 1 1 m_law_of
theorem ok_law_of (tx : Tx K mg T) : FnOk P w K mg base (L2.CX P w) 2 tx.a_law_of tx.d_law_of ["_law_box_here", "_law_goods_so"] (spB K T 1 f_law_of) :=
    fn_box tx.F_law_of sc_law_of (by decide) rfl rfl fun cdv A outer s H E hr hp =>
      (xb_one (xs_ret (xe_ix ix_seq p_ix (xe_name 1) (xe_callBx (ok_law_take tx) (hr.mono (by decide)) tx.g_law_take tx.F_law_take.kp (b_law_take tx) takes0 runB_len (xa_cons (xe_name 0) (xa_cons (xe_callB call_len p_len tx.z_len (by decide +kernel) (xa_cons (xe_name 1) xa_nil)) xa_nil))))))
theorem or_law_of (tx : Tx K mg T) : OfRun P w K mg base T 2 tx.a_law_of f_law_take :=
    of_run tx.F_law_of sc_law_of (b_law_of tx) rfl rfl (fun _ _ => rfl) (by decide) (by decide) fun cdv A outer s H hr => pe_callS (ok_law_take tx) (hr.mono (by decide)) rfl tx.g_law_take tx.F_law_take.kp (b_law_take tx) (fun σ => passAt takes0 σ) (pa_cons (pv 0) (pa_cons (pe_callB call_len rfl tx.z_len (by decide +kernel) (pa_cons (pv 1) pa_nil)) pa_nil))
/-! #### _law_same -/
theorem sc_law_same : FnScope ["_law_got", "_law_due", "_law_mine", "_law_its"] ["_law_got", "_law_due"] (defScope s_law_same) := ⟨rfl, rfl, rfl, by decide +kernel, rfl, by decide +kernel, by decide +kernel⟩
theorem b_law_same (tx : Tx K mg T) : Binds K tx.d_law_same ["_law_got", "_law_due"] [] := tx.F_law_same.binds fun _ _ _ _ _ _ us hl => match us, hl with | [_, _], _ => rfl
def m_law_same_e1 (self : List D → Res) : Rho → R VD := (callE self (consA (nameE 2) (consA (nameE 3) nilA)))
def m_law_same_c1 (self : List D → Res) : Rho → R (List D) := (compF [2, 3] (zipI (consA (nameE 0) (consA (nameE 1) nilA))) (tupG 2 (consG (nameG 2) (consG (nameG 3) nilG))) yesT (m_law_same_e1 self))
def m_law_same (self : List D → Res) : Rho → O := (seqS (ifS (valT (isiE ["list", "tuple"] (nameE 1))) (seqS (ifS (valT (op2E neD (isiE ["list"] (nameE 0)) (isiE ["list"] (nameE 1)))) (retS (constE (.bl false))) nextS)
  (seqS (ifS (valT (op2E neD (isiE ["tuple"] (nameE 0)) (isiE ["tuple"] (nameE 1)))) (retS (constE (.bl false))) nextS)
  (retS (andE (op2E eqD (opNE lenD (consA (nameE 0) nilA)) (opNE lenD (consA (nameE 1) nilA))) (opNE allD (consA (frzE (m_law_same_c1 self)) nilA)))))) nextS)
  (seqS (ifS (orT (valT (op2E isD (nameE 1) (constE .non))) (valT (isiE ["bool", "str"] (nameE 1)))) (retS (andE (op2E eqD (nameE 0) (nameE 1)) (andE (op2E eqD (isiE ["bool"] (nameE 0)) (isiE ["bool"] (nameE 1))) (op2E eqD (op2E isD (nameE 0) (constE .non)) (op2E isD (nameE 1) (constE .non)))))) nextS)
  (retS (andE (isiE ["int"] (nameE 0)) (andE (notE (isiE ["bool"] (nameE 0))) (op2E eqD (nameE 0) (nameE 1)))))))
def f_law_same : Nat → List D → Res
  | 0 => fun _ => .bad
  | n + 1 => runF 2 4 (m_law_same (f_law_same n))
theorem f_law_same_len : ∀ (n : Nat) (ds : List D), f_law_same n ds ≠ .bad → ds.length = 2
  | 0, _, h => (h rfl).elim
  | n + 1, ds, h => runF_len ds h
theorem ok_law_same (tx : Tx K mg T) : ∀ n : Nat, FnOk P w K mg base (L2.CX P w) (n + 1) tx.a_law_same tx.d_law_same ["_law_got", "_law_due"] (spP K T 2 (f_law_same n))
  | 0 => fn_bad tx.F_law_same sc_law_same
  | n + 1 => have ih := ok_law_same tx n
    fn_pure (k := n + 1) tx.F_law_same sc_law_same (by decide) fun cdv A outer s H E hr tk hp =>
      (xb_cons (xs_if (xt_val (xe_isi2 (t := "list") (t' := "tuple") tx.z_isinstance (by decide +kernel) tx.z_list (by decide +kernel) tx.z_tuple (by decide +kernel) (xe_name 1) (by decide) (by decide))) (xb_cons (xs_if (xt_cmp (op_neA hr.units) p_ne (xe_isi1 (t := "list") tx.z_isinstance (by decide +kernel) tx.z_list (by decide +kernel) (xe_name 0) (by decide)) (xe_isi1 (t := "list") tx.z_isinstance (by decide +kernel) tx.z_list (by decide +kernel) (xe_name 1) (by decide))) (xb_one (xs_ret xe_bl)) xb_nil)
      (xb_cons (xs_if (xt_cmp (op_neA hr.units) p_ne (xe_isi1 (t := "tuple") tx.z_isinstance (by decide +kernel) tx.z_tuple (by decide +kernel) (xe_name 0) (by decide)) (xe_isi1 (t := "tuple") tx.z_isinstance (by decide +kernel) tx.z_tuple (by decide +kernel) (xe_name 1) (by decide))) (xb_one (xs_ret xe_bl)) xb_nil)
      (xb_one (xs_ret (xe_and (xe_cmp (op_eqA hr.units) p_eq (xe_callB call_len p_len tx.z_len (by decide +kernel) (xa_cons (xe_name 0) xa_nil)) (xe_callB call_len p_len tx.z_len (by decide +kernel) (xa_cons (xe_name 1) xa_nil))) (xe_one (xe_callB (cr_all rfl) p_all tx.z_all (by decide +kernel) (xa_cons (XF.xe (xf_lc rfl sc_law_same.nd (xi_zip tx.z_zip (xa_cons (xe_name 0) (xa_cons (xe_name 1) xa_nil))) (blkOk_by (own := [("_law_mine", 2), ("_law_its", 3)]) (by kernel_rfl)) (fun _ _ _ _ _ => (xgo_tup rfl (xgos_cons (xgo_name 2 sc_law_same.nd) (xgos_cons (xgo_name 3 sc_law_same.nd) xgos_nil)))) (fun _ _ _ _ _ => xts_nil) (fun _ _ _ _ _ => (xe_call ih (hr.mono (by omega)) tx.g_law_same tx.F_law_same.kp (b_law_same tx) takes0 (f_law_same_len n) (xa_cons (xe_name 2) (xa_cons (xe_name 3) xa_nil)))))) xa_nil)))))))) xb_nil)
      (xb_cons (xs_if (XW.xt (xw_or (xt_cmp op_isN p_is (xe_name 1) xe_non) (xw_or1 (xt_val (xe_isi2 (t := "bool") (t' := "str") tx.z_isinstance (by decide +kernel) tx.z_bool (by decide +kernel) tx.z_str (by decide +kernel) (xe_name 1) (by decide) (by decide)))))) (xb_one (xs_ret (xe_and (xe_cmp (op_eqA hr.units) p_eq (xe_name 0) (xe_name 1)) (xe_and (xe_cmp (op_eqA hr.units) p_eq (xe_isi1 (t := "bool") tx.z_isinstance (by decide +kernel) tx.z_bool (by decide +kernel) (xe_name 0) (by decide)) (xe_isi1 (t := "bool") tx.z_isinstance (by decide +kernel) tx.z_bool (by decide +kernel) (xe_name 1) (by decide))) (xe_one (xe_cmp (op_eqA hr.units) p_eq (xe_cmp op_isN p_is (xe_name 0) xe_non) (xe_cmp op_isN p_is (xe_name 1) xe_non))))))) xb_nil)
      (xb_one (xs_ret (xe_and (xe_isi1 (t := "int") tx.z_isinstance (by decide +kernel) tx.z_int (by decide +kernel) (xe_name 0) (by decide)) (xe_and (xe_not (xe_isi1 (t := "bool") tx.z_isinstance (by decide +kernel) tx.z_bool (by decide +kernel) (xe_name 0) (by decide))) (xe_one (xe_cmp (op_eqA hr.units) p_eq (xe_name 0) (xe_name 1)))))))))
/-! #### _law_bits -/
theorem sc_law_bits : FnScope ["_law_box_here", "_law_most_so", "_law_found", "_law_heir_so", "_law_turn"] ["_law_box_here", "_law_most_so"] (defScope s_law_bits) := ⟨rfl, rfl, rfl, by decide +kernel, rfl, by decide +kernel, by decide +kernel⟩
theorem b_law_bits (tx : Tx K mg T) : Binds K tx.d_law_bits ["_law_box_here", "_law_most_so"] [] := tx.F_law_bits.binds fun _ _ _ _ _ _ us hl => match us, hl with | [_, _], _ => rfl
def m_law_bits_b1 : Rho → O := (seqS (dropS (appE 2 (consA (tupE (consA (nameE 3) (consA (callBE f_law_of (consA (nameE 0) (consA (frzE (lstF (consA (constE (.int 1)) (consA (constE (.int 1)) (consA (constE (.int 2)) (consA (constE (.int 3)) (consA (constE (.int 10)) (consA (op2E addD (op2E powD (constE (.int 10)) (constE (.int 19))) (callBE f_law_take (consA (nameE 0) (consA (constE (.int 9)) nilA)))) nilA)))))))) nilA))) nilA))) nilA)))
  (asgS 3 (ifE (valT (op2E eqD (nameE 3) (constE (.str "a")))) (constE (.str "b")) (constE (.str "a")))))
def m_law_bits_l1 : Rho → O := (forS (rngI1 (consA (callBE f_law_take (consA (nameE 0) (consA (op2E addD (nameE 1) (constE (.int 1))) nilA))) nilA)) (nameG 4) m_law_bits_b1)
def m_law_bits : Rho → O := (seqS (parS [2, 3] (consMf' (lstF nilA) (consMd (callBE f_law_of (consA (nameE 0) (consA (frzE (lstF (consA (constE (.str "a")) (consA (constE (.str "b")) nilA)))) nilA))) nilM)))
  (seqS m_law_bits_l1
  (retS (opNE tupleTD (consA (nameE 2) nilA)))))
def f_law_bits : List Int → List D → Option (D × List Int) := runB 1 4 m_law_bits
theorem ok_law_bits (tx : Tx K mg T) : FnOk P w K mg base (L2.CX P w) 3 tx.a_law_bits tx.d_law_bits ["_law_box_here", "_law_most_so"] (spB K T 1 f_law_bits) :=
    fn_box tx.F_law_bits sc_law_bits (by decide) rfl rfl fun cdv A outer s H E hr hp =>
      (xb_cons (by first | exact (xs_par2 2 3 rfl sc_law_bits.nd (xm_f (xf_lst xa_nil) (xm_d (xe_callBx (ok_law_of tx) (hr.mono (by decide)) tx.g_law_of tx.F_law_of.kp (b_law_of tx) takes0 runB_len (xa_cons (xe_name 0) (xa_cons (XF.xe (xf_lst (xa_cons xe_str (xa_cons xe_str xa_nil)))) xa_nil))) xm_nil))) | exact (xs_parN (is := [2, 3]) rfl (by decide) rfl (by decide) (xm_f (xf_lst xa_nil) (xm_d (xe_callBx (ok_law_of tx) (hr.mono (by decide)) tx.g_law_of tx.F_law_of.kp (b_law_of tx) takes0 runB_len (xa_cons (xe_name 0) (xa_cons (XF.xe (xf_lst (xa_cons xe_str (xa_cons xe_str xa_nil)))) xa_nil))) xm_nil)) (pgs_names (pgs_cons (pg_name (i := 2) sc_law_bits.nd rfl (by first | exact Or.inl rfl | exact Or.inr rfl)) (pgs_cons (pg_name (i := 3) sc_law_bits.nd rfl (by first | exact Or.inl rfl | exact Or.inr rfl)) pgs_nil)) (gn_cons (i := 2) (gn_cons (i := 3) gn_nil)))))
      (xb_cons (xs_for hp rfl (xi_range1 tx.z_range (xa_cons (xe_callBx (ok_law_take tx) (hr.mono (by decide)) tx.g_law_take tx.F_law_take.kp (b_law_take tx) takes0 runB_len (xa_cons (xe_name 0) (xa_cons (xe_op op_addA p_add (xe_name 1) xe_int) xa_nil))) xa_nil)) (xg_name 4 sc_law_bits.nd) (xb_cons (xs_expr (xe_append 2 (xa_cons (xe_tup (xa_cons (xe_name 3) (xa_cons (xe_callBx (ok_law_of tx) (hr.mono (by decide)) tx.g_law_of tx.F_law_of.kp (b_law_of tx) takes0 runB_len (xa_cons (xe_name 0) (xa_cons (XF.xe (xf_lst (xa_cons xe_int (xa_cons xe_int (xa_cons xe_int (xa_cons xe_int (xa_cons xe_int (xa_cons (xe_op op_addA p_add (xe_op op_pow p_pow xe_int xe_int) (xe_callBx (ok_law_take tx) (hr.mono (by decide)) tx.g_law_take tx.F_law_take.kp (b_law_take tx) takes0 runB_len (xa_cons (xe_name 0) (xa_cons xe_int xa_nil)))) xa_nil)))))))) xa_nil))) xa_nil))) xa_nil)))
      (xb_one (xs_set 3 sc_law_bits.nd (xe_if (xt_cmp (op_eqA hr.units) p_eq (xe_name 3) xe_str) xe_str xe_str)))))
      (xb_one (xs_ret (xe_callTy (call_tupleA rfl) p_tupleT tx.z_tuple (by decide +kernel) (xa_cons (xe_name 2) xa_nil))))))
/-! #### _law_bit_words -/
theorem sc_law_bit_words : FnScope ["_law_bits_so", "_law_own"] ["_law_bits_so"] (defScope s_law_bit_words) := ⟨rfl, rfl, rfl, by decide +kernel, rfl, by decide +kernel, by decide +kernel⟩
theorem b_law_bit_words (tx : Tx K mg T) : Binds K tx.d_law_bit_words ["_law_bits_so"] [] := tx.F_law_bit_words.binds fun _ _ _ _ _ _ us hl => match us, hl with | [_], _ => rfl
def m_law_bit_words_e1 : Rho → R VD := (op2E addD (op2E addD (op2E atD (nameE 1) (constE (.int 0))) (constE (.str " "))) (opNE strD (consA (op2E atD (nameE 1) (constE (.int 1))) nilA)))
def m_law_bit_words_c1 : Rho → R (List D) := (compF [1] (seqI (nameE 0)) (nameG 1) yesT m_law_bit_words_e1)
def m_law_bit_words : Rho → O := (retS (ifE (valT (op2E neD (nameE 0) (tupE nilA))) (strM joinD (constE (.str "; ")) (consA (frzE m_law_bit_words_c1) nilA)) (constE (.str "-"))))
def f_law_bit_words : List D → Res := runF 1 2 m_law_bit_words
theorem ok_law_bit_words (tx : Tx K mg T) : FnOk P w K mg base (L2.CX P w) 1 tx.a_law_bit_words tx.d_law_bit_words ["_law_bits_so"] (spP K T 1 f_law_bit_words) :=
    fn_pure tx.F_law_bit_words sc_law_bit_words (by decide) fun cdv A outer s H E hr tk hp =>
      (xb_one (xs_ret (xe_if (xt_cmp (op_neA hr.units) p_ne (xe_name 0) (xe_tup xa_nil)) (xe_strM PySem.F.slot_str_join PySem.F.type_str_join mt_join p_join xe_str (xa_cons (XF.xe (xf_lc rfl sc_law_bit_words.nd (xi_seq (xe_name 0)) (blkOk_by (own := [("_law_own", 1)]) (by kernel_rfl)) (fun _ _ _ _ _ => (xgo_name 1 sc_law_bit_words.nd)) (fun _ _ _ _ _ => xts_nil) (fun _ _ _ _ _ => (xe_op op_addA p_add (xe_op op_addA p_add (xe_ix ix_seq p_ix (xe_name 1) xe_int) xe_str) (xe_callTy call_str_int p_str tx.z_str (by decide +kernel) (xa_cons (xe_ix ix_seq p_ix (xe_name 1) xe_int) xa_nil)))))) xa_nil)) xe_str)))
/-! #### _law_heard -/
theorem sc_law_heard : FnScope ["_law_flat", "_law_caught", "_law_told_so", "error_so"] ["_law_flat"] (defScope s_law_heard) := ⟨rfl, rfl, rfl, by decide +kernel, rfl, by decide +kernel, by decide +kernel⟩
theorem b_law_heard (tx : Tx K mg T) : Binds K tx.d_law_heard ["_law_flat"] [] := tx.F_law_heard.binds fun _ _ _ _ _ _ us hl => match us, hl with | [_], _ => rfl
def m_law_heard : Rho → O := (seqS (parS [1, 2] (consMd (constE .non) (consMd (constE .non) nilM)))
  (seqS (tryS (asgS 2 (callE f_runs_from (consA (nameE 0) nilA))) (hAs [(1, true)] 3 (asgS 1 (nameE 3)) hNil))
  (retS (ifE (valT (op2E isD (nameE 1) (constE .non))) (nameE 2) (frzE (lstF (consA (op1E (fldD [1] "piece") (nameE 1)) nilA)))))))
def f_law_heard : List D → Res := runF 1 4 m_law_heard
theorem ok_law_heard (tx : Tx K mg T) : FnOk P w K mg base (L2.CX P w) 4 tx.a_law_heard tx.d_law_heard ["_law_flat"] (spP K T 1 f_law_heard) :=
    fn_pure tx.F_law_heard sc_law_heard (by decide) fun cdv A outer s H E hr tk hp =>
      (xb_cons (by first | exact (xs_par2 1 2 rfl sc_law_heard.nd (xm_d xe_non (xm_d xe_non xm_nil))) | exact (xs_parN (is := [1, 2]) rfl (by decide) rfl (by decide) (xm_d xe_non (xm_d xe_non xm_nil)) (pgs_names (pgs_cons (pg_name (i := 1) sc_law_heard.nd rfl (by first | exact Or.inl rfl | exact Or.inr rfl)) (pgs_cons (pg_name (i := 2) sc_law_heard.nd rfl (by first | exact Or.inl rfl | exact Or.inr rfl)) pgs_nil)) (gn_cons (i := 1) (gn_cons (i := 2) gn_nil)))))
      (xb_cons (xs_try rfl rfl (fun W' pn xe tk hp => (xb_one (xs_set 2 sc_law_heard.nd (xe_call (ok_runs_from tx) (hr.mono (by decide)) tx.g_runs_from tx.F_runs_from.kp (b_runs_from tx) tk runF_len (xa_cons (xe_name 0) xa_nil))))) (xh_as 3 rfl rfl rfl sc_law_heard.nd ⟨rfl, by decide, .inl tx.E_BadText.gC⟩ (hx_BadText tx) (fun _ _ => (xb_one (xs_set 1 sc_law_heard.nd (xe_name 3)))) (xh_nil rfl rfl tk)))
      (xb_one (xs_ret (xe_if (xt_cmp op_isN p_is (xe_name 1) xe_non) (xe_name 2) (XF.xe (xf_lst (xa_cons (xe_efld (ts := [1]) (exf_cons tx.E_BadText.xf tx.E_BadText.noF exf_nil) (xe_name 1)) xa_nil))))))))
/-! #### _law_by_hand_right -/
theorem sc_law_by_hand_right : FnScope ["_law_wrong", "_law_got", "_law_flat", "_law_at_so"] [] (defScope s_law_by_hand_right) := ⟨rfl, rfl, rfl, by decide +kernel, rfl, by decide +kernel, by decide +kernel⟩
theorem kw_law_by_hand_right (tx : Tx K mg T) : KwB K tx.d_law_by_hand_right [] := kwB_of tx.F_law_by_hand_right fun _ _ _ _ _ _ us hl => match us, hl with | [], _ => rfl
def m_law_by_hand_right_e1 : Rho → R VD := (callE f_law_heard (consA (nameE 2) nilA))
def m_law_by_hand_right_c1 : Rho → R (List D) := (compF [2, 3] (seqI (nameE 0)) (tupG 2 (consG (nameG 2) (consG (nameG 3) nilG))) yesT m_law_by_hand_right_e1)
def m_law_by_hand_right_e2 : Rho → R VD := (frzE (lstF (consA (nameE 3) nilA)))
def m_law_by_hand_right_c2 : Rho → R (List D) := (compF [2, 3] (seqI (nameE 0)) (tupG 2 (consG (nameG 2) (consG (nameG 3) nilG))) yesT m_law_by_hand_right_e2)
def m_law_by_hand_right : Rho → O := (seqS (asgS 0 (frzE (lstF (consA (tupE (consA (constE (.str "")) (consA (constE (.int 0)) nilA))) (consA (tupE (consA (constE (.str " ")) (consA (constE (.int 0)) nilA))) (consA (tupE (consA (constE (.str "a")) (consA (constE (.int 0)) nilA))) (consA (tupE (consA (constE (.str "a ")) (consA (constE (.int 0)) nilA))) (consA (tupE (consA (constE (.str "3")) (consA (constE (.int 0)) nilA))) nilA))))))))
  (seqS (asgS 0 (op2E addD (nameE 0) (frzE (lstF (consA (tupE (consA (constE (.str "a 0")) (consA (constE (.int 0)) nilA))) (consA (tupE (consA (constE (.str "a 03")) (consA (constE (.int 0)) nilA))) (consA (tupE (consA (constE (.str "a -3")) (consA (constE (.int 0)) nilA))) (consA (tupE (consA (constE (.str "a +3")) (consA (constE (.int 0)) nilA))) (consA (tupE (consA (constE (.str "a x")) (consA (constE (.int 0)) nilA))) nilA)))))))))
  (seqS (asgS 0 (op2E addD (nameE 0) (frzE (lstF (consA (tupE (consA (constE (.str "a  3")) (consA (constE (.int 0)) nilA))) (consA (tupE (consA (constE (.str " a 3")) (consA (constE (.int 0)) nilA))) (consA (tupE (consA (constE (.str "a 3 ")) (consA (constE (.int 0)) nilA))) (consA (tupE (consA (constE (.str "A 3")) (consA (constE (.int 0)) nilA))) (consA (tupE (consA (constE (.str "c 3")) (consA (constE (.int 0)) nilA))) nilA)))))))))
  (seqS (asgS 0 (op2E addD (nameE 0) (frzE (lstF (consA (tupE (consA (constE (.str "ann 3")) (consA (constE (.int 0)) nilA))) (consA (tupE (consA (constE (.str "3 a")) (consA (constE (.int 0)) nilA))) (consA (tupE (consA (constE (.str "a3")) (consA (constE (.int 0)) nilA))) (consA (tupE (consA (constE (.str "ab 3")) (consA (constE (.int 0)) nilA))) nilA))))))))
  (seqS (asgS 0 (op2E addD (nameE 0) (frzE (lstF (consA (tupE (consA (constE (.str "a 3;")) (consA (constE (.int 0)) nilA))) (consA (tupE (consA (constE (.str "a 3; ")) (consA (constE (.int 1)) nilA))) (consA (tupE (consA (constE (.str "a 3;b 1")) (consA (constE (.int 0)) nilA))) (consA (tupE (consA (constE (.str "a 3, b 1")) (consA (constE (.int 0)) nilA))) nilA))))))))
  (seqS (asgS 0 (op2E addD (nameE 0) (frzE (lstF (consA (tupE (consA (constE (.str "a 3; -")) (consA (constE (.int 1)) nilA))) (consA (tupE (consA (constE (.str "-; a 3")) (consA (constE (.int 0)) nilA))) (consA (tupE (consA (constE (.str "--")) (consA (constE (.int 0)) nilA))) nilA)))))))
  (seqS (asgS 0 (op2E addD (nameE 0) (frzE (lstF (consA (tupE (consA (constE (.str "a 3; a 1")) (consA (constE (.int 1)) nilA))) (consA (tupE (consA (constE (.str "a 3; b 1; b 1")) (consA (constE (.int 2)) nilA))) (consA (tupE (consA (constE (.str "a 3; b 1; a 0")) (consA (constE (.int 2)) nilA))) nilA)))))))
  (seqS (asgS 0 (op2E addD (nameE 0) (frzE (lstF (consA (tupE (consA (constE (.str "a 3; b; a 1")) (consA (constE (.int 1)) nilA))) (consA (tupE (consA (constE (.str "a 3; b 1; a 1; a 2")) (consA (constE (.int 3)) nilA))) nilA))))))
  (seqS (asgS 0 (op2E addD (nameE 0) (frzE (lstF (consA (tupE (consA (constE (.str "a 3; b 1 a 2")) (consA (constE (.int 1)) nilA))) (consA (tupE (consA (constE (.str "a 3.0")) (consA (constE (.int 0)) nilA))) (consA (tupE (consA (constE (.str "a 1_0")) (consA (constE (.int 0)) nilA))) nilA)))))))
  (seqS (asgS 0 (op2E addD (nameE 0) (frzE (lstF (consA (tupE (consA (constE (.str "a 3; b 1;  a 2")) (consA (constE (.int 2)) nilA))) (consA (tupE (consA (constE (.str "a b 3")) (consA (constE (.int 0)) nilA))) (consA (tupE (consA (constE (.str "b 2; c 1")) (consA (constE (.int 1)) nilA))) nilA)))))))
  (seqS (asgS 1 (frzE m_law_by_hand_right_c1))
  (seqS (ifS (notT (valT (callE (f_law_same 8) (consA (nameE 1) (consA (frzE m_law_by_hand_right_c2) nilA))))) (retS (constE (.bl false))) nextS)
  (seqS (asgS 1 (frzE (lstF (consA (callE f_law_heard (consA (constE (.str "-")) nilA)) (consA (callE f_law_heard (consA (constE (.str "b 10; a 1")) nilA)) (consA (callE f_law_heard (consA (constE (.str "a 1; b 1; a 1")) nilA)) nilA))))))
  (retS (callE (f_law_same 8) (consA (nameE 1) (consA (frzE (lstF (consA (tupE nilA) (consA (tupE (consA (tupE (consA (constE (.str "b")) (consA (constE (.int 10)) nilA))) (consA (tupE (consA (constE (.str "a")) (consA (constE (.int 1)) nilA))) nilA))) (consA (tupE (consA (tupE (consA (constE (.str "a")) (consA (constE (.int 1)) nilA))) (consA (tupE (consA (constE (.str "b")) (consA (constE (.int 1)) nilA))) (consA (tupE (consA (constE (.str "a")) (consA (constE (.int 1)) nilA))) nilA)))) nilA))))) nilA)))))))))))))))))
def f0_law_by_hand_right : List D → Res := runF 0 4 m_law_by_hand_right
theorem ok0_law_by_hand_right (tx : Tx K mg T) : FnOk P w K mg base (L2.CX P w) 10 tx.a_law_by_hand_right tx.d_law_by_hand_right [] (spP K T 0 f0_law_by_hand_right) := by
  refine fn_pure tx.F_law_by_hand_right sc_law_by_hand_right (by decide) fun cdv A outer s H E hr tk hp => (xb_cons ?_ (xb_cons ?_ (xb_cons ?_ (xb_cons ?_ (xb_cons ?_ (xb_cons ?_ (xb_cons ?_ (xb_cons ?_ (xb_cons ?_ (xb_cons ?_ (xb_cons ?_ (xb_cons ?_ (xb_cons ?_ (xb_one ?_))))))))))))))
  · exact (xs_set 0 sc_law_by_hand_right.nd (XF.xe (xf_lst (xa_cons (xe_tup (xa_cons xe_str (xa_cons xe_int xa_nil))) (xa_cons (xe_tup (xa_cons xe_str (xa_cons xe_int xa_nil))) (xa_cons (xe_tup (xa_cons xe_str (xa_cons xe_int xa_nil))) (xa_cons (xe_tup (xa_cons xe_str (xa_cons xe_int xa_nil))) (xa_cons (xe_tup (xa_cons xe_str (xa_cons xe_int xa_nil))) xa_nil))))))))
  · exact (xs_set 0 sc_law_by_hand_right.nd (xe_op op_addA p_add (xe_name 0) (XF.xe (xf_lst (xa_cons (xe_tup (xa_cons xe_str (xa_cons xe_int xa_nil))) (xa_cons (xe_tup (xa_cons xe_str (xa_cons xe_int xa_nil))) (xa_cons (xe_tup (xa_cons xe_str (xa_cons xe_int xa_nil))) (xa_cons (xe_tup (xa_cons xe_str (xa_cons xe_int xa_nil))) (xa_cons (xe_tup (xa_cons xe_str (xa_cons xe_int xa_nil))) xa_nil)))))))))
  · exact (xs_set 0 sc_law_by_hand_right.nd (xe_op op_addA p_add (xe_name 0) (XF.xe (xf_lst (xa_cons (xe_tup (xa_cons xe_str (xa_cons xe_int xa_nil))) (xa_cons (xe_tup (xa_cons xe_str (xa_cons xe_int xa_nil))) (xa_cons (xe_tup (xa_cons xe_str (xa_cons xe_int xa_nil))) (xa_cons (xe_tup (xa_cons xe_str (xa_cons xe_int xa_nil))) (xa_cons (xe_tup (xa_cons xe_str (xa_cons xe_int xa_nil))) xa_nil)))))))))
  · exact (xs_set 0 sc_law_by_hand_right.nd (xe_op op_addA p_add (xe_name 0) (XF.xe (xf_lst (xa_cons (xe_tup (xa_cons xe_str (xa_cons xe_int xa_nil))) (xa_cons (xe_tup (xa_cons xe_str (xa_cons xe_int xa_nil))) (xa_cons (xe_tup (xa_cons xe_str (xa_cons xe_int xa_nil))) (xa_cons (xe_tup (xa_cons xe_str (xa_cons xe_int xa_nil))) xa_nil))))))))
  · exact (xs_set 0 sc_law_by_hand_right.nd (xe_op op_addA p_add (xe_name 0) (XF.xe (xf_lst (xa_cons (xe_tup (xa_cons xe_str (xa_cons xe_int xa_nil))) (xa_cons (xe_tup (xa_cons xe_str (xa_cons xe_int xa_nil))) (xa_cons (xe_tup (xa_cons xe_str (xa_cons xe_int xa_nil))) (xa_cons (xe_tup (xa_cons xe_str (xa_cons xe_int xa_nil))) xa_nil))))))))
  · exact (xs_set 0 sc_law_by_hand_right.nd (xe_op op_addA p_add (xe_name 0) (XF.xe (xf_lst (xa_cons (xe_tup (xa_cons xe_str (xa_cons xe_int xa_nil))) (xa_cons (xe_tup (xa_cons xe_str (xa_cons xe_int xa_nil))) (xa_cons (xe_tup (xa_cons xe_str (xa_cons xe_int xa_nil))) xa_nil)))))))
  · exact (xs_set 0 sc_law_by_hand_right.nd (xe_op op_addA p_add (xe_name 0) (XF.xe (xf_lst (xa_cons (xe_tup (xa_cons xe_str (xa_cons xe_int xa_nil))) (xa_cons (xe_tup (xa_cons xe_str (xa_cons xe_int xa_nil))) (xa_cons (xe_tup (xa_cons xe_str (xa_cons xe_int xa_nil))) xa_nil)))))))
  · exact (xs_set 0 sc_law_by_hand_right.nd (xe_op op_addA p_add (xe_name 0) (XF.xe (xf_lst (xa_cons (xe_tup (xa_cons xe_str (xa_cons xe_int xa_nil))) (xa_cons (xe_tup (xa_cons xe_str (xa_cons xe_int xa_nil))) xa_nil))))))
  · exact (xs_set 0 sc_law_by_hand_right.nd (xe_op op_addA p_add (xe_name 0) (XF.xe (xf_lst (xa_cons (xe_tup (xa_cons xe_str (xa_cons xe_int xa_nil))) (xa_cons (xe_tup (xa_cons xe_str (xa_cons xe_int xa_nil))) (xa_cons (xe_tup (xa_cons xe_str (xa_cons xe_int xa_nil))) xa_nil)))))))
  · exact (xs_set 0 sc_law_by_hand_right.nd (xe_op op_addA p_add (xe_name 0) (XF.xe (xf_lst (xa_cons (xe_tup (xa_cons xe_str (xa_cons xe_int xa_nil))) (xa_cons (xe_tup (xa_cons xe_str (xa_cons xe_int xa_nil))) (xa_cons (xe_tup (xa_cons xe_str (xa_cons xe_int xa_nil))) xa_nil)))))))
  · exact (xs_setLc 1 rfl sc_law_by_hand_right.nd (xi_seq (xe_name 0)) (blkOk_by (own := [("_law_flat", 2), ("_law_at_so", 3)]) (by kernel_rfl)) (fun _ _ _ _ _ => (xgo_tup rfl (xgos_cons (xgo_name 2 sc_law_by_hand_right.nd) (xgos_cons (xgo_name 3 sc_law_by_hand_right.nd) xgos_nil)))) (fun _ _ _ _ _ => xts_nil) (fun _ _ _ _ _ => (xe_call (ok_law_heard tx) (hr.mono (by decide)) tx.g_law_heard tx.F_law_heard.kp (b_law_heard tx) takes0 runF_len (xa_cons (xe_name 2) xa_nil))) (sw_true rfl rfl rfl (by decide +kernel)))
  · exact (xs_if (xt_not (xt_val (xe_call (ok_law_same tx 8) (hr.mono (by decide)) tx.g_law_same tx.F_law_same.kp (b_law_same tx) tk (f_law_same_len 8) (xa_cons (xe_name 1) (xa_cons (XF.xe (xf_lc rfl sc_law_by_hand_right.nd (xi_seq (xe_name 0)) (blkOk_by (own := [("_law_flat", 2), ("_law_at_so", 3)]) (by kernel_rfl)) (fun _ _ _ _ _ => (xgo_tup rfl (xgos_cons (xgo_name 2 sc_law_by_hand_right.nd) (xgos_cons (xgo_name 3 sc_law_by_hand_right.nd) xgos_nil)))) (fun _ _ _ _ _ => xts_nil) (fun _ _ _ _ _ => (XF.xe (xf_lst (xa_cons (xe_name 3) xa_nil)))))) xa_nil))))) (xb_one (xs_ret xe_bl)) xb_nil)
  · exact (xs_set 1 sc_law_by_hand_right.nd (XF.xe (xf_lst (xa_cons (xe_call (ok_law_heard tx) (hr.mono (by decide)) tx.g_law_heard tx.F_law_heard.kp (b_law_heard tx) tk runF_len (xa_cons xe_str xa_nil)) (xa_cons (xe_call (ok_law_heard tx) (hr.mono (by decide)) tx.g_law_heard tx.F_law_heard.kp (b_law_heard tx) tk runF_len (xa_cons xe_str xa_nil)) (xa_cons (xe_call (ok_law_heard tx) (hr.mono (by decide)) tx.g_law_heard tx.F_law_heard.kp (b_law_heard tx) tk runF_len (xa_cons xe_str xa_nil)) xa_nil))))))
  · exact (xs_ret (xe_call (ok_law_same tx 8) (hr.mono (by decide)) tx.g_law_same tx.F_law_same.kp (b_law_same tx) tk (f_law_same_len 8) (xa_cons (xe_name 1) (xa_cons (XF.xe (xf_lst (xa_cons (xe_tup xa_nil) (xa_cons (xe_tup (xa_cons (xe_tup (xa_cons xe_str (xa_cons xe_int xa_nil))) (xa_cons (xe_tup (xa_cons xe_str (xa_cons xe_int xa_nil))) xa_nil))) (xa_cons (xe_tup (xa_cons (xe_tup (xa_cons xe_str (xa_cons xe_int xa_nil))) (xa_cons (xe_tup (xa_cons xe_str (xa_cons xe_int xa_nil))) (xa_cons (xe_tup (xa_cons xe_str (xa_cons xe_int xa_nil))) xa_nil)))) xa_nil))))) xa_nil))))
@[irreducible]
def f_law_by_hand_right : List D → Res := f0_law_by_hand_right
theorem f_law_by_hand_right_eq : f_law_by_hand_right = f0_law_by_hand_right := by delta f_law_by_hand_right; rfl
theorem ok_law_by_hand_right (tx : Tx K mg T) : FnOk P w K mg base (L2.CX P w) 10 tx.a_law_by_hand_right tx.d_law_by_hand_right [] (spP K T 0 f_law_by_hand_right) := by rw [f_law_by_hand_right_eq]; exact ok0_law_by_hand_right tx
theorem f_law_by_hand_right_len (ds : List D) (h : f_law_by_hand_right ds ≠ .bad) : ds.length = 0 := by rw [f_law_by_hand_right_eq] at h; exact runF_len ds h
/-! #### _law_bent -/
theorem sc_law_bent : FnScope ["_law_box_here", "_law_piece_so", "_law_way_so"] ["_law_box_here", "_law_piece_so"] (defScope s_law_bent) := ⟨rfl, rfl, rfl, by decide +kernel, rfl, by decide +kernel, by decide +kernel⟩
theorem b_law_bent (tx : Tx K mg T) : Binds K tx.d_law_bent ["_law_box_here", "_law_piece_so"] [] := tx.F_law_bent.binds fun _ _ _ _ _ _ us hl => match us, hl with | [_, _], _ => rfl
def m_law_bent : Rho → O := (seqS (asgS 2 (callBE f_law_take (consA (nameE 0) (consA (constE (.int 4)) nilA))))
  (seqS (ifS (valT (op2E eqD (nameE 2) (constE (.int 0)))) (retS (op2E addD (nameE 1) (callBE f_law_of (consA (nameE 0) (consA (frzE (lstF (consA (constE (.str "x")) (consA (constE (.str ";")) (consA (constE (.str " 1")) (consA (constE (.str " ")) (consA (constE (.str ",")) nilA))))))) nilA))))) nextS)
  (seqS (ifS (valT (op2E eqD (nameE 2) (constE (.int 1)))) (retS (replOfE " " ["  ", "", "_", " 0"] f_law_take (nameE 1))) nextS)
  (seqS (ifS (valT (op2E eqD (nameE 2) (constE (.int 2)))) (retS (callBE f_law_of (consA (nameE 0) (consA (frzE (lstF (consA (constE (.str "")) (consA (constE (.str "none")) (consA (constE (.str "c 1")) (consA (constE (.str "a 0")) (consA (constE (.str "5 b")) (consA (constE (.str "5")) nilA)))))))) nilA)))) nextS)
  (retS (op2E addD (callBE f_law_of (consA (nameE 0) (consA (frzE (lstF (consA (constE (.str " ")) (consA (constE (.str "+")) (consA (constE (.str "A")) (consA (constE (.str "b")) nilA)))))) nilA))) (nameE 1)))))))
def f_law_bent : List Int → List D → Option (D × List Int) := runB 1 2 m_law_bent
theorem ok_law_bent (tx : Tx K mg T) : FnOk P w K mg base (L2.CX P w) 3 tx.a_law_bent tx.d_law_bent ["_law_box_here", "_law_piece_so"] (spB K T 1 f_law_bent) :=
    fn_box tx.F_law_bent sc_law_bent (by decide) rfl rfl fun cdv A outer s H E hr hp =>
      (xb_cons (xs_set 2 sc_law_bent.nd (xe_callBx (ok_law_take tx) (hr.mono (by decide)) tx.g_law_take tx.F_law_take.kp (b_law_take tx) takes0 runB_len (xa_cons (xe_name 0) (xa_cons xe_int xa_nil))))
      (xb_cons (xs_if (xt_cmp (op_eqA hr.units) p_eq (xe_name 2) xe_int) (xb_one (xs_ret (xe_op op_addA p_add (xe_name 1) (xe_callBx (ok_law_of tx) (hr.mono (by decide)) tx.g_law_of tx.F_law_of.kp (b_law_of tx) takes0 runB_len (xa_cons (xe_name 0) (xa_cons (XF.xe (xf_lst (xa_cons xe_str (xa_cons xe_str (xa_cons xe_str (xa_cons xe_str (xa_cons xe_str xa_nil))))))) xa_nil)))))) xb_nil)
      (xb_cons (xs_if1 (xt1_cmp (op_eqA hr.units) p_eq (xe_name 2)) (xst_ret (xet_replOf (or_law_of tx) (hr.mono (by decide)) tx.g_law_of tx.F_law_of.kp (xe_name 1))) xb_nil)
      (xb_cons (xs_if (xt_cmp (op_eqA hr.units) p_eq (xe_name 2) xe_int) (xb_one (xs_ret (xe_callBx (ok_law_of tx) (hr.mono (by decide)) tx.g_law_of tx.F_law_of.kp (b_law_of tx) takes0 runB_len (xa_cons (xe_name 0) (xa_cons (XF.xe (xf_lst (xa_cons xe_str (xa_cons xe_str (xa_cons xe_str (xa_cons xe_str (xa_cons xe_str (xa_cons xe_str xa_nil)))))))) xa_nil))))) xb_nil)
      (xb_one (xs_ret (xe_op op_addA p_add (xe_callBx (ok_law_of tx) (hr.mono (by decide)) tx.g_law_of tx.F_law_of.kp (b_law_of tx) takes0 runB_len (xa_cons (xe_name 0) (xa_cons (XF.xe (xf_lst (xa_cons xe_str (xa_cons xe_str (xa_cons xe_str (xa_cons xe_str xa_nil)))))) xa_nil))) (xe_name 1))))))))
/-! #### _law_case_right -/
theorem sc_law_case_right : FnScope ["_law_box_here", "_law_bits_so", "_law_pieces", "_law_k"] ["_law_box_here"] (defScope s_law_case_right) := ⟨rfl, rfl, rfl, by decide +kernel, rfl, by decide +kernel, by decide +kernel⟩
theorem b_law_case_right (tx : Tx K mg T) : Binds K tx.d_law_case_right ["_law_box_here"] [] := tx.F_law_case_right.binds fun _ _ _ _ _ _ us hl => match us, hl with | [_], _ => rfl
def m_law_case_right : Rho → O := (seqS (asgS 1 (callBE f_law_bits (consA (nameE 0) (consA (constE (.int 6)) nilA))))
  (seqS (ifS (valT (op2E eqD (nameE 1) (tupE nilA))) (retS (callE (f_law_same 8) (consA (callE f_law_heard (consA (constE (.str "-")) nilA)) (consA (tupE nilA) nilA)))) nextS)
  (seqS (asgM 2 (strMF splitF (callE f_law_bit_words (consA (nameE 1) nilA)) (consA (constE (.str "; ")) nilA)))
  (seqS (asgS 3 (callBE f_law_take (consA (nameE 0) (consA (opNE lenD (consA (nameE 2) nilA)) nilA))))
  (seqS (putItem 2 (callBE f_law_bent (consA (nameE 0) (consA (op2E atD (nameE 2) (nameE 3)) nilA))) (nameE 3))
  (retS (callE (f_law_same 8) (consA (frzE (lstF (consA (callE f_law_heard (consA (strM joinD (constE (.str "; ")) (consA (nameE 2) nilA)) nilA)) (consA (callE f_law_heard (consA (callE f_law_bit_words (consA (nameE 1) nilA)) nilA)) nilA)))) (consA (frzE (lstF (consA (frzE (lstF (consA (nameE 3) nilA))) (consA (nameE 1) nilA)))) nilA)))))))))
def f_law_case_right : List Int → List D → Option (D × List Int) := runB 0 3 m_law_case_right
theorem ok_law_case_right (tx : Tx K mg T) : FnOk P w K mg base (L2.CX P w) 10 tx.a_law_case_right tx.d_law_case_right ["_law_box_here"] (spB K T 0 f_law_case_right) :=
    fn_box tx.F_law_case_right sc_law_case_right (by decide) rfl rfl fun cdv A outer s H E hr hp =>
      (by refine (xb_cons ?_ (xb_cons ?_ (xb_cons ?_ (xb_cons ?_ (xb_cons ?_ (xb_one ?_)))))); exact (xs_set 1 sc_law_case_right.nd (xe_callBx (ok_law_bits tx) (hr.mono (by decide)) tx.g_law_bits tx.F_law_bits.kp (b_law_bits tx) takes0 runB_len (xa_cons (xe_name 0) (xa_cons xe_int xa_nil)))); exact (xs_if (xt_cmp (op_eqA hr.units) p_eq (xe_name 1) (xe_tup xa_nil)) (xb_one (xs_ret (xe_call (ok_law_same tx 8) (hr.mono (by decide)) tx.g_law_same tx.F_law_same.kp (b_law_same tx) takes0 (f_law_same_len 8) (xa_cons (xe_call (ok_law_heard tx) (hr.mono (by decide)) tx.g_law_heard tx.F_law_heard.kp (b_law_heard tx) takes0 runF_len (xa_cons xe_str xa_nil)) (xa_cons (xe_tup xa_nil) xa_nil))))) xb_nil); exact (xs_setM 2 sc_law_case_right.nd (xf_strM PySem.F.slot_str_split PySem.F.type_str_split mt_split p_splitF (xe_call (ok_law_bit_words tx) (hr.mono (by decide)) tx.g_law_bit_words tx.F_law_bit_words.kp (b_law_bit_words tx) takes0 runF_len (xa_cons (xe_name 1) xa_nil)) (xa_cons xe_str xa_nil))); exact (xs_set 3 sc_law_case_right.nd (xe_callBx (ok_law_take tx) (hr.mono (by decide)) tx.g_law_take tx.F_law_take.kp (b_law_take tx) takes0 runB_len (xa_cons (xe_name 0) (xa_cons (xe_callB call_len p_len tx.z_len (by decide +kernel) (xa_cons (xe_name 2) xa_nil)) xa_nil)))); exact (xs_item 2 (xe_callBx (ok_law_bent tx) (hr.mono (by decide)) tx.g_law_bent tx.F_law_bent.kp (b_law_bent tx) takes0 runB_len (xa_cons (xe_name 0) (xa_cons (xe_ix ix_seq p_ix (xe_name 2) (xe_name 3)) xa_nil))) (xe_name 3)); exact (xs_ret (xe_call (ok_law_same tx 8) (hr.mono (by decide)) tx.g_law_same tx.F_law_same.kp (b_law_same tx) takes0 (f_law_same_len 8) (xa_cons (XF.xe (xf_lst (xa_cons (xe_call (ok_law_heard tx) (hr.mono (by decide)) tx.g_law_heard tx.F_law_heard.kp (b_law_heard tx) takes0 runF_len (xa_cons (xe_strM PySem.F.slot_str_join PySem.F.type_str_join mt_join p_join xe_str (xa_cons (xe_name 2) xa_nil)) xa_nil)) (xa_cons (xe_call (ok_law_heard tx) (hr.mono (by decide)) tx.g_law_heard tx.F_law_heard.kp (b_law_heard tx) takes0 runF_len (xa_cons (xe_call (ok_law_bit_words tx) (hr.mono (by decide)) tx.g_law_bit_words tx.F_law_bit_words.kp (b_law_bit_words tx) takes0 runF_len (xa_cons (xe_name 1) xa_nil)) xa_nil)) xa_nil)))) (xa_cons (XF.xe (xf_lst (xa_cons (XF.xe (xf_lst (xa_cons (xe_name 3) xa_nil))) (xa_cons (xe_name 1) xa_nil)))) xa_nil)))))
/-! #### _law_right -/
theorem sc_law_right : FnScope ["_law_box_here", "_law_turn"] ["_law_box_here"] (defScope s_law_right) := ⟨rfl, rfl, rfl, by decide +kernel, rfl, by decide +kernel, by decide +kernel⟩
theorem b_law_right (tx : Tx K mg T) : Binds K tx.d_law_right ["_law_box_here"] [] := tx.F_law_right.binds fun _ _ _ _ _ _ us hl => match us, hl with | [_], _ => rfl
def m_law_right_e1 : Rho → R VD := (callBE f_law_case_right (consA (nameE 0) nilA))
def m_law_right_c1 : Rho → R (List D) := (compF [1] (rngI1 (consA (constE (.int 6)) nilA)) (nameG 1) yesT m_law_right_e1)
def m_law_right : Rho → O := (retS (andE (callE f_law_by_hand_right nilA) (opNE allD (consA (frzE m_law_right_c1) nilA))))
def f_law_right : List Int → List D → Option (D × List Int) := runB 0 1 m_law_right
theorem ok_law_right (tx : Tx K mg T) : FnOk P w K mg base (L2.CX P w) 11 tx.a_law_right tx.d_law_right ["_law_box_here"] (spB K T 0 f_law_right) :=
    fn_box tx.F_law_right sc_law_right (by decide) rfl rfl fun cdv A outer s H E hr hp =>
      (xb_one (xs_ret (xe_and (xe_call0 (ok_law_by_hand_right tx) (hr.mono (by decide)) tx.g_law_by_hand_right tx.F_law_by_hand_right.kp (kw_law_by_hand_right tx) takes0 f_law_by_hand_right_len) (xe_one (xe_callB (cr_all rfl) p_all tx.z_all (by decide +kernel) (xa_cons (XF.xe (xf_lc rfl sc_law_right.nd (xi_range1 tx.z_range (xa_cons xe_int xa_nil)) (blkOk_by (own := [("_law_turn", 1)]) (by kernel_rfl)) (fun _ _ _ _ _ => (xgo_name 1 sc_law_right.nd)) (fun _ _ _ _ _ => xts_nil) (fun _ _ _ _ _ => (xe_callBx (ok_law_case_right tx) (hr.mono (by decide)) tx.g_law_case_right tx.F_law_case_right.kp (b_law_case_right tx) takes0 runB_len (xa_cons (xe_name 0) xa_nil))))) xa_nil))))))
/-! #### law -/
theorem sc_law : FnScope ["_law_script", "_law_cells_here", "_law_k"] ["_law_script"] (defScope s_law) := ⟨rfl, rfl, rfl, by decide +kernel, rfl, by decide +kernel, by decide +kernel⟩
def m_law_e1 : Rho → R VD := (callNew f_law_right (callL f_law_box (consA (nameE 1) (consA (nameE 2) nilA))))
def m_law_c1 : Rho → R (List D) := (compF [2] (rngI1 (consA (opNE lenD (consA (nameE 1) nilA)) nilA)) (nameG 2) yesT m_law_e1)
def m_law : Rho → O := (seqS (asgS 1 (callE f_law_cells (consA (nameE 0) (consA (constE (.int 3)) nilA))))
  (retS (opNE allD (consA (frzE m_law_c1) nilA))))
def f_law : List D → Res := runF 1 3 m_law
theorem ok_law (tx : Tx K mg T) : FnOk P w K mg base (L2.CX P w) 12 tx.a_law tx.d_law ["_law_script"] (spP K T 1 f_law) :=
    fn_pure tx.F_law sc_law (by decide) fun cdv A outer s H E hr tk hp =>
      (xb_cons (xs_set 1 sc_law.nd (xe_call (ok_law_cells tx) (hr.mono (by decide)) tx.g_law_cells tx.F_law_cells.kp (b_law_cells tx) tk runF_len (xa_cons (xe_name 0) (xa_cons xe_int xa_nil))))
      (xb_one (xs_ret (xe_callB (cr_all rfl) p_all tx.z_all (by decide +kernel) (xa_cons (XF.xe (xf_lc rfl sc_law.nd (xi_range1 tx.z_range (xa_cons (xe_callB call_len p_len tx.z_len (by decide +kernel) (xa_cons (xe_name 1) xa_nil)) xa_nil)) (blkOk_by (own := [("_law_k", 2)]) (by kernel_rfl)) (fun _ _ _ _ _ => (xgo_name 2 sc_law.nd)) (fun _ _ _ _ _ => xts_nil) (fun _ _ _ _ _ => (xe_callNew (ok_law_right tx) (hr.mono (by decide)) tx.g_law_right tx.F_law_right.kp (b_law_right tx) takes0 (xf_call (ok_law_box tx) (hr.mono (by decide)) tx.g_law_box tx.F_law_box.kp (b_law_box tx) takes0 runL_len (xa_cons (xe_name 1) (xa_cons (xe_name 2) xa_nil))))))) xa_nil)))))
end
/-! ### the end -/
def mkTx {K : PySem.W.Frag} {h : Heap} {mg : Str → Option Value} (X : K.In h) (G : h.Ns mainGlobals mg)
    {f_number_in : Addr} {od_number_in an_number_in : Option Addr} {sl_number_in : Array (Option Value)} {oc_number_in kV_number_in dc_number_in pm_number_in cd_number_in ct_number_in : Value}
    {f_run_in : Addr} {od_run_in an_run_in : Option Addr} {sl_run_in : Array (Option Value)} {oc_run_in kV_run_in dc_run_in pm_run_in cd_run_in ct_run_in : Value}
    {f_runs_from : Addr} {od_runs_from an_runs_from : Option Addr} {sl_runs_from : Array (Option Value)} {oc_runs_from kV_runs_from dc_runs_from pm_runs_from cd_runs_from ct_runs_from : Value}
    {f_law_box : Addr} {od_law_box an_law_box : Option Addr} {sl_law_box : Array (Option Value)} {oc_law_box kV_law_box dc_law_box pm_law_box cd_law_box ct_law_box : Value}
    {f_law_take : Addr} {od_law_take an_law_take : Option Addr} {sl_law_take : Array (Option Value)} {oc_law_take kV_law_take dc_law_take pm_law_take cd_law_take ct_law_take : Value}
    {f_law_cells : Addr} {od_law_cells an_law_cells : Option Addr} {sl_law_cells : Array (Option Value)} {oc_law_cells kV_law_cells dc_law_cells pm_law_cells cd_law_cells ct_law_cells : Value}
    {f_law_of : Addr} {od_law_of an_law_of : Option Addr} {sl_law_of : Array (Option Value)} {oc_law_of kV_law_of dc_law_of pm_law_of cd_law_of ct_law_of : Value}
    {f_law_same : Addr} {od_law_same an_law_same : Option Addr} {sl_law_same : Array (Option Value)} {oc_law_same kV_law_same dc_law_same pm_law_same cd_law_same ct_law_same : Value}
    {f_law_bits : Addr} {od_law_bits an_law_bits : Option Addr} {sl_law_bits : Array (Option Value)} {oc_law_bits kV_law_bits dc_law_bits pm_law_bits cd_law_bits ct_law_bits : Value}
    {f_law_bit_words : Addr} {od_law_bit_words an_law_bit_words : Option Addr} {sl_law_bit_words : Array (Option Value)} {oc_law_bit_words kV_law_bit_words dc_law_bit_words pm_law_bit_words cd_law_bit_words ct_law_bit_words : Value}
    {f_law_heard : Addr} {od_law_heard an_law_heard : Option Addr} {sl_law_heard : Array (Option Value)} {oc_law_heard kV_law_heard dc_law_heard pm_law_heard cd_law_heard ct_law_heard : Value}
    {f_law_by_hand_right : Addr} {od_law_by_hand_right an_law_by_hand_right : Option Addr} {sl_law_by_hand_right : Array (Option Value)} {oc_law_by_hand_right kV_law_by_hand_right dc_law_by_hand_right pm_law_by_hand_right cd_law_by_hand_right ct_law_by_hand_right : Value}
    {f_law_bent : Addr} {od_law_bent an_law_bent : Option Addr} {sl_law_bent : Array (Option Value)} {oc_law_bent kV_law_bent dc_law_bent pm_law_bent cd_law_bent ct_law_bent : Value}
    {f_law_case_right : Addr} {od_law_case_right an_law_case_right : Option Addr} {sl_law_case_right : Array (Option Value)} {oc_law_case_right kV_law_case_right dc_law_case_right pm_law_case_right cd_law_case_right ct_law_case_right : Value}
    {f_law_right : Addr} {od_law_right an_law_right : Option Addr} {sl_law_right : Array (Option Value)} {oc_law_right kV_law_right dc_law_right pm_law_right cd_law_right ct_law_right : Value}
    {f_law : Addr} {od_law an_law : Option Addr} {sl_law : Array (Option Value)} {oc_law kV_law dc_law pm_law cd_law ct_law : Value}
    {C_BadText fI_BadText : Addr} {nm_BadText q_BadText : Str} {N_BadText : Addr} {bs_BadText : List Value} {B_BadText : Addr} {sn_BadText : List Str} {sub_BadText : List Value} {ab_BadText : Bool} {col_BadText : Option Bool} {dd_BadText : Option Addr} {k0_BadText k1_BadText k2_BadText k3_BadText k5_BadText : Option Value}
    {odI_BadText anI_BadText : Option Addr} {slI_BadText : Array (Option Value)} {ocI_BadText kVI_BadText dcI_BadText pmI_BadText cdI_BadText ctI_BadText : Value}
    {t_DIGITS : Tok}
    {t_BLANK : Tok}
    {t_PAIR : Tok}
    {r_HEIRS : Addr} {od_HEIRS : Option Addr} {n_HEIRS : Nat} {sl_HEIRS : Array (Option Value)} {t_HEIRS_0 t_HEIRS_1 : Tok}
    {t_NOTHING : Tok}
    {t_BETWEEN : Tok}
    (a_number_in : PySem.W.nsIn K mainGlobals "number_in" = some (some (.ref f_number_in)))
    (l_number_in : K.lookup f_number_in = some ⟨oc_number_in, od_number_in, .func (PySem.W.fnOf "number_in" "number_in" (defArgs s_number_in) (defBody s_number_in) (defScope s_number_in) .none kV_number_in dc_number_in pm_number_in an_number_in cd_number_in ct_number_in), sl_number_in⟩)
    (c_number_in : PySem.W.codeIn K cd_number_in "number_in" = true)
    (k_number_in : PySem.W.keepIn K (.ref f_number_in) = true)
    (a_run_in : PySem.W.nsIn K mainGlobals "run_in" = some (some (.ref f_run_in)))
    (l_run_in : K.lookup f_run_in = some ⟨oc_run_in, od_run_in, .func (PySem.W.fnOf "run_in" "run_in" (defArgs s_run_in) (defBody s_run_in) (defScope s_run_in) .none kV_run_in dc_run_in pm_run_in an_run_in cd_run_in ct_run_in), sl_run_in⟩)
    (c_run_in : PySem.W.codeIn K cd_run_in "run_in" = true)
    (k_run_in : PySem.W.keepIn K (.ref f_run_in) = true)
    (a_runs_from : PySem.W.nsIn K mainGlobals "runs_from" = some (some (.ref f_runs_from)))
    (l_runs_from : K.lookup f_runs_from = some ⟨oc_runs_from, od_runs_from, .func (PySem.W.fnOf "runs_from" "runs_from" (defArgs s_runs_from) (defBody s_runs_from) (defScope s_runs_from) .none kV_runs_from dc_runs_from pm_runs_from an_runs_from cd_runs_from ct_runs_from), sl_runs_from⟩)
    (c_runs_from : PySem.W.codeIn K cd_runs_from "runs_from" = true)
    (k_runs_from : PySem.W.keepIn K (.ref f_runs_from) = true)
    (a_law_box : PySem.W.nsIn K mainGlobals "_law_box" = some (some (.ref f_law_box)))
    (l_law_box : K.lookup f_law_box = some ⟨oc_law_box, od_law_box, .func (PySem.W.fnOf "_law_box" "_law_box" (defArgs s_law_box) (defBody s_law_box) (defScope s_law_box) .none kV_law_box dc_law_box pm_law_box an_law_box cd_law_box ct_law_box), sl_law_box⟩)
    (c_law_box : PySem.W.codeIn K cd_law_box "_law_box" = true)
    (k_law_box : PySem.W.keepIn K (.ref f_law_box) = true)
    (a_law_take : PySem.W.nsIn K mainGlobals "_law_take" = some (some (.ref f_law_take)))
    (l_law_take : K.lookup f_law_take = some ⟨oc_law_take, od_law_take, .func (PySem.W.fnOf "_law_take" "_law_take" (defArgs s_law_take) (defBody s_law_take) (defScope s_law_take) .none kV_law_take dc_law_take pm_law_take an_law_take cd_law_take ct_law_take), sl_law_take⟩)
    (c_law_take : PySem.W.codeIn K cd_law_take "_law_take" = true)
    (k_law_take : PySem.W.keepIn K (.ref f_law_take) = true)
    (a_law_cells : PySem.W.nsIn K mainGlobals "_law_cells" = some (some (.ref f_law_cells)))
    (l_law_cells : K.lookup f_law_cells = some ⟨oc_law_cells, od_law_cells, .func (PySem.W.fnOf "_law_cells" "_law_cells" (defArgs s_law_cells) (defBody s_law_cells) (defScope s_law_cells) .none kV_law_cells dc_law_cells pm_law_cells an_law_cells cd_law_cells ct_law_cells), sl_law_cells⟩)
    (c_law_cells : PySem.W.codeIn K cd_law_cells "_law_cells" = true)
    (k_law_cells : PySem.W.keepIn K (.ref f_law_cells) = true)
    (a_law_of : PySem.W.nsIn K mainGlobals "_law_of" = some (some (.ref f_law_of)))
    (l_law_of : K.lookup f_law_of = some ⟨oc_law_of, od_law_of, .func (PySem.W.fnOf "_law_of" "_law_of" (defArgs s_law_of) (defBody s_law_of) (defScope s_law_of) .none kV_law_of dc_law_of pm_law_of an_law_of cd_law_of ct_law_of), sl_law_of⟩)
    (c_law_of : PySem.W.codeIn K cd_law_of "_law_of" = true)
    (k_law_of : PySem.W.keepIn K (.ref f_law_of) = true)
    (a_law_same : PySem.W.nsIn K mainGlobals "_law_same" = some (some (.ref f_law_same)))
    (l_law_same : K.lookup f_law_same = some ⟨oc_law_same, od_law_same, .func (PySem.W.fnOf "_law_same" "_law_same" (defArgs s_law_same) (defBody s_law_same) (defScope s_law_same) .none kV_law_same dc_law_same pm_law_same an_law_same cd_law_same ct_law_same), sl_law_same⟩)
    (c_law_same : PySem.W.codeIn K cd_law_same "_law_same" = true)
    (k_law_same : PySem.W.keepIn K (.ref f_law_same) = true)
    (a_law_bits : PySem.W.nsIn K mainGlobals "_law_bits" = some (some (.ref f_law_bits)))
    (l_law_bits : K.lookup f_law_bits = some ⟨oc_law_bits, od_law_bits, .func (PySem.W.fnOf "_law_bits" "_law_bits" (defArgs s_law_bits) (defBody s_law_bits) (defScope s_law_bits) .none kV_law_bits dc_law_bits pm_law_bits an_law_bits cd_law_bits ct_law_bits), sl_law_bits⟩)
    (c_law_bits : PySem.W.codeIn K cd_law_bits "_law_bits" = true)
    (k_law_bits : PySem.W.keepIn K (.ref f_law_bits) = true)
    (a_law_bit_words : PySem.W.nsIn K mainGlobals "_law_bit_words" = some (some (.ref f_law_bit_words)))
    (l_law_bit_words : K.lookup f_law_bit_words = some ⟨oc_law_bit_words, od_law_bit_words, .func (PySem.W.fnOf "_law_bit_words" "_law_bit_words" (defArgs s_law_bit_words) (defBody s_law_bit_words) (defScope s_law_bit_words) .none kV_law_bit_words dc_law_bit_words pm_law_bit_words an_law_bit_words cd_law_bit_words ct_law_bit_words), sl_law_bit_words⟩)
    (c_law_bit_words : PySem.W.codeIn K cd_law_bit_words "_law_bit_words" = true)
    (k_law_bit_words : PySem.W.keepIn K (.ref f_law_bit_words) = true)
    (a_law_heard : PySem.W.nsIn K mainGlobals "_law_heard" = some (some (.ref f_law_heard)))
    (l_law_heard : K.lookup f_law_heard = some ⟨oc_law_heard, od_law_heard, .func (PySem.W.fnOf "_law_heard" "_law_heard" (defArgs s_law_heard) (defBody s_law_heard) (defScope s_law_heard) .none kV_law_heard dc_law_heard pm_law_heard an_law_heard cd_law_heard ct_law_heard), sl_law_heard⟩)
    (c_law_heard : PySem.W.codeIn K cd_law_heard "_law_heard" = true)
    (k_law_heard : PySem.W.keepIn K (.ref f_law_heard) = true)
    (a_law_by_hand_right : PySem.W.nsIn K mainGlobals "_law_by_hand_right" = some (some (.ref f_law_by_hand_right)))
    (l_law_by_hand_right : K.lookup f_law_by_hand_right = some ⟨oc_law_by_hand_right, od_law_by_hand_right, .func (PySem.W.fnOf "_law_by_hand_right" "_law_by_hand_right" (defArgs s_law_by_hand_right) (defBody s_law_by_hand_right) (defScope s_law_by_hand_right) .none kV_law_by_hand_right dc_law_by_hand_right pm_law_by_hand_right an_law_by_hand_right cd_law_by_hand_right ct_law_by_hand_right), sl_law_by_hand_right⟩)
    (c_law_by_hand_right : PySem.W.codeIn K cd_law_by_hand_right "_law_by_hand_right" = true)
    (k_law_by_hand_right : PySem.W.keepIn K (.ref f_law_by_hand_right) = true)
    (a_law_bent : PySem.W.nsIn K mainGlobals "_law_bent" = some (some (.ref f_law_bent)))
    (l_law_bent : K.lookup f_law_bent = some ⟨oc_law_bent, od_law_bent, .func (PySem.W.fnOf "_law_bent" "_law_bent" (defArgs s_law_bent) (defBody s_law_bent) (defScope s_law_bent) .none kV_law_bent dc_law_bent pm_law_bent an_law_bent cd_law_bent ct_law_bent), sl_law_bent⟩)
    (c_law_bent : PySem.W.codeIn K cd_law_bent "_law_bent" = true)
    (k_law_bent : PySem.W.keepIn K (.ref f_law_bent) = true)
    (a_law_case_right : PySem.W.nsIn K mainGlobals "_law_case_right" = some (some (.ref f_law_case_right)))
    (l_law_case_right : K.lookup f_law_case_right = some ⟨oc_law_case_right, od_law_case_right, .func (PySem.W.fnOf "_law_case_right" "_law_case_right" (defArgs s_law_case_right) (defBody s_law_case_right) (defScope s_law_case_right) .none kV_law_case_right dc_law_case_right pm_law_case_right an_law_case_right cd_law_case_right ct_law_case_right), sl_law_case_right⟩)
    (c_law_case_right : PySem.W.codeIn K cd_law_case_right "_law_case_right" = true)
    (k_law_case_right : PySem.W.keepIn K (.ref f_law_case_right) = true)
    (a_law_right : PySem.W.nsIn K mainGlobals "_law_right" = some (some (.ref f_law_right)))
    (l_law_right : K.lookup f_law_right = some ⟨oc_law_right, od_law_right, .func (PySem.W.fnOf "_law_right" "_law_right" (defArgs s_law_right) (defBody s_law_right) (defScope s_law_right) .none kV_law_right dc_law_right pm_law_right an_law_right cd_law_right ct_law_right), sl_law_right⟩)
    (c_law_right : PySem.W.codeIn K cd_law_right "_law_right" = true)
    (k_law_right : PySem.W.keepIn K (.ref f_law_right) = true)
    (a_law : PySem.W.nsIn K mainGlobals "law" = some (some (.ref f_law)))
    (l_law : K.lookup f_law = some ⟨oc_law, od_law, .func (PySem.W.fnOf "law" "law" (defArgs s_law) (defBody s_law) (defScope s_law) .none kV_law dc_law pm_law an_law cd_law ct_law), sl_law⟩)
    (c_law : PySem.W.codeIn K cd_law "law" = true)
    (k_law : PySem.W.keepIn K (.ref f_law) = true)
    (eg_BadText : PySem.W.nsIn K mainGlobals "BadText" = some (some (.ref C_BadText)))
    (el_BadText : K.lookup C_BadText = some (excClassObj nm_BadText q_BadText C_BadText N_BadText bs_BadText [.ref B_BadText, .type "ValueError", .type "Exception", .type "BaseException", .type "object"] true sn_BadText sub_BadText ab_BadText col_BadText dd_BadText k0_BadText k1_BadText k2_BadText k3_BadText k5_BadText "ValueError.__new__"))
    (esa_BadText : PySem.W.findIn K (.ref C_BadText) "__setattr__" = some (some (.builtin "object.__setattr__")))
    (eex_BadText : PySem.W.subIn K (.ref C_BadText) (.type "BaseException") = some true)
    (ety_BadText : PySem.W.typeIn K (.ref C_BadText) = some (.type "type"))
    (ek_BadText : PySem.W.keepIn K (.ref C_BadText) = true)
    (ei_BadText : PySem.W.findIn K (.ref C_BadText) "__init__" = some (some (.ref fI_BadText)))
    (eti_BadText : PySem.W.typeIn K (.ref fI_BadText) = some (.type "function"))
    (eno_BadText : PySem.W.findIn K (.ref C_BadText) "piece" = some none)
    (ega_BadText : PySem.W.findIn K (.ref C_BadText) "__getattribute__" = some (some (.builtin "BaseException.__getattribute__")))
    (egg_BadText : PySem.W.findIn K (.ref C_BadText) "__getattr__" = some none)
    (ehd_BadText : PySem.W.hasDictIn K C_BadText = true)
    (eli_BadText : K.lookup fI_BadText = some ⟨ocI_BadText, odI_BadText, .func (PySem.W.fnOf "__init__" "BadText.__init__" (defArgs si_BadText) (defBody si_BadText) (defScope si_BadText) .none kVI_BadText dcI_BadText pmI_BadText anI_BadText cdI_BadText ctI_BadText), slI_BadText⟩)
    (eci_BadText : PySem.W.codeIn K cdI_BadText "BadText.__init__" = true)
    (eki_BadText : PySem.W.keepIn K (.ref fI_BadText) = true)
    (su_BadText_BadText : PySem.W.subIn K (.ref C_BadText) (.ref C_BadText) = some true)
    (z_abs : PySem.W.nsIn K mainGlobals "abs" = some none)
    (z_all : PySem.W.nsIn K mainGlobals "all" = some none)
    (z_bool : PySem.W.nsIn K mainGlobals "bool" = some none)
    (z_enumerate : PySem.W.nsIn K mainGlobals "enumerate" = some none)
    (z_int : PySem.W.nsIn K mainGlobals "int" = some none)
    (z_isinstance : PySem.W.nsIn K mainGlobals "isinstance" = some none)
    (z_len : PySem.W.nsIn K mainGlobals "len" = some none)
    (z_list : PySem.W.nsIn K mainGlobals "list" = some none)
    (z_range : PySem.W.nsIn K mainGlobals "range" = some none)
    (z_str : PySem.W.nsIn K mainGlobals "str" = some none)
    (z_tuple : PySem.W.nsIn K mainGlobals "tuple" = some none)
    (z_zip : PySem.W.nsIn K mainGlobals "zip" = some none)
    (q_DIGITS : PySem.W.nsIn K mainGlobals "DIGITS" = some (some (.str "0123456789" t_DIGITS)))
    (q_BLANK : PySem.W.nsIn K mainGlobals "BLANK" = some (some (.str " " t_BLANK)))
    (q_PAIR : PySem.W.nsIn K mainGlobals "PAIR" = some (some (.int (2) t_PAIR)))
    (q_HEIRS : PySem.W.nsIn K mainGlobals "HEIRS" = some (some (.ref r_HEIRS)))
    (lt_HEIRS : K.lookup r_HEIRS = some ⟨.type "tuple", od_HEIRS, .seq #[.str "a" t_HEIRS_0, .str "b" t_HEIRS_1] n_HEIRS, sl_HEIRS⟩)
    (q_NOTHING : PySem.W.nsIn K mainGlobals "NOTHING" = some (some (.str "-" t_NOTHING)))
    (q_BETWEEN : PySem.W.nsIn K mainGlobals "BETWEEN" = some (some (.str "; " t_BETWEEN))) : Tx K mg (tbT [(1, C_BadText)]) :=
  { a_number_in := f_number_in, d_number_in := _, F_number_in := fun_mk l_number_in c_number_in k_number_in, g_number_in := PySem.W.mg_of X G a_number_in,
    a_run_in := f_run_in, d_run_in := _, F_run_in := fun_mk l_run_in c_run_in k_run_in, g_run_in := PySem.W.mg_of X G a_run_in,
    a_runs_from := f_runs_from, d_runs_from := _, F_runs_from := fun_mk l_runs_from c_runs_from k_runs_from, g_runs_from := PySem.W.mg_of X G a_runs_from,
    a_law_box := f_law_box, d_law_box := _, F_law_box := fun_mk l_law_box c_law_box k_law_box, g_law_box := PySem.W.mg_of X G a_law_box,
    a_law_take := f_law_take, d_law_take := _, F_law_take := fun_mk l_law_take c_law_take k_law_take, g_law_take := PySem.W.mg_of X G a_law_take,
    a_law_cells := f_law_cells, d_law_cells := _, F_law_cells := fun_mk l_law_cells c_law_cells k_law_cells, g_law_cells := PySem.W.mg_of X G a_law_cells,
    a_law_of := f_law_of, d_law_of := _, F_law_of := fun_mk l_law_of c_law_of k_law_of, g_law_of := PySem.W.mg_of X G a_law_of,
    a_law_same := f_law_same, d_law_same := _, F_law_same := fun_mk l_law_same c_law_same k_law_same, g_law_same := PySem.W.mg_of X G a_law_same,
    a_law_bits := f_law_bits, d_law_bits := _, F_law_bits := fun_mk l_law_bits c_law_bits k_law_bits, g_law_bits := PySem.W.mg_of X G a_law_bits,
    a_law_bit_words := f_law_bit_words, d_law_bit_words := _, F_law_bit_words := fun_mk l_law_bit_words c_law_bit_words k_law_bit_words, g_law_bit_words := PySem.W.mg_of X G a_law_bit_words,
    a_law_heard := f_law_heard, d_law_heard := _, F_law_heard := fun_mk l_law_heard c_law_heard k_law_heard, g_law_heard := PySem.W.mg_of X G a_law_heard,
    a_law_by_hand_right := f_law_by_hand_right, d_law_by_hand_right := _, F_law_by_hand_right := fun_mk l_law_by_hand_right c_law_by_hand_right k_law_by_hand_right, g_law_by_hand_right := PySem.W.mg_of X G a_law_by_hand_right,
    a_law_bent := f_law_bent, d_law_bent := _, F_law_bent := fun_mk l_law_bent c_law_bent k_law_bent, g_law_bent := PySem.W.mg_of X G a_law_bent,
    a_law_case_right := f_law_case_right, d_law_case_right := _, F_law_case_right := fun_mk l_law_case_right c_law_case_right k_law_case_right, g_law_case_right := PySem.W.mg_of X G a_law_case_right,
    a_law_right := f_law_right, d_law_right := _, F_law_right := fun_mk l_law_right c_law_right k_law_right, g_law_right := PySem.W.mg_of X G a_law_right,
    a_law := f_law, d_law := _, F_law := fun_mk l_law c_law k_law, g_law := PySem.W.mg_of X G a_law,
    fI_BadText := fI_BadText, fd_BadText := _, E_BadText := ⟨PySem.W.mg_of X G eg_BadText, ⟨⟨_, _, _, _, _, _, _, _, _, _, _, _, _, _, _, el_BadText, rfl⟩, esa_BadText, eex_BadText, ety_BadText, ek_BadText⟩, ei_BadText, eti_BadText, eno_BadText, ega_BadText, egg_BadText, ehd_BadText⟩, FI_BadText := fun_mk eli_BadText eci_BadText eki_BadText,
    ex_BadText_BadText := PySem.W.exm_ref eex_BadText ehd_BadText ety_BadText su_BadText_BadText,
    z_abs := PySem.W.mg_none_of X G z_abs,
    z_all := PySem.W.mg_none_of X G z_all,
    z_bool := PySem.W.mg_none_of X G z_bool,
    z_enumerate := PySem.W.mg_none_of X G z_enumerate,
    z_int := PySem.W.mg_none_of X G z_int,
    z_isinstance := PySem.W.mg_none_of X G z_isinstance,
    z_len := PySem.W.mg_none_of X G z_len,
    z_list := PySem.W.mg_none_of X G z_list,
    z_range := PySem.W.mg_none_of X G z_range,
    z_str := PySem.W.mg_none_of X G z_str,
    z_tuple := PySem.W.mg_none_of X G z_tuple,
    z_zip := PySem.W.mg_none_of X G z_zip,
    c_DIGITS := ⟨_, PySem.W.mg_of X G q_DIGITS⟩,
    c_BLANK := ⟨_, PySem.W.mg_of X G q_BLANK⟩,
    c_PAIR := ⟨_, PySem.W.mg_of X G q_PAIR⟩,
    c_HEIRS := ⟨_, _, _, _, PySem.W.mg_of X G q_HEIRS, lt_HEIRS, rfl, rfl, by rw [sizeLine_eq]; show 2 ≤ _; decide, .cons ⟨_, rfl⟩ (.cons ⟨_, rfl⟩ (.nil))⟩,
    c_NOTHING := ⟨_, PySem.W.mg_of X G q_NOTHING⟩,
    c_BETWEEN := ⟨_, PySem.W.mg_of X G q_BETWEEN⟩ }
theorem fin {P : Program} {w : World} {K : PySem.W.Frag} {mg : Str → Option Value} {T : Tb} {fa : Addr} (tx : Tx K mg T) (h0 : T 91 = 0) (hfa : mg "law" = some (.ref fa)) :
    ∃ fd : FuncData, (∀ (s : Shared) (v : Value), BindsTo s fd ⟨[v], []⟩ [("_law_script", v)]) ∧ ∀ base : Heap, K.In base → base.Ns mainGlobals mg → FnOk P w K mg base (L2.CX P w) 12 fa fd ["_law_script"] (spA K 1 f_law) := by
  have e := hfa.symm.trans tx.g_law
  cases e
  refine ⟨tx.d_law, fun s v => ?_, fun base _ _ => (ok_law tx).imp fun _ _ _ _ q => q T h0⟩
  obtain ⟨oc, od, kV, doc, pm, an, cdv, ct, osl, e, lk, hcd⟩ := tx.F_law.ex
  rw [e]
  exact .of_eq rfl
end Lw
namespace Lw
open PySem Lq
local macro_rules | `(tactic| sizeOf_list_dec) => `(tactic| first | omega | (simp only [List.length_append, List.length_map, List.length_cons, List.length_nil, List.length_take, List.length_drop, List.length_reverse, List.length_set, List.length_replicate, List.length_singleton, List.length_range]; omega) | (simp; omega))
local macro_rules | `(tactic| array_get_dec) => `(tactic| repeat' first
  | with_reducible assumption
  | (with_reducible exact ev_const) | (with_reducible exact ev_nilA) | (with_reducible exact ev_nilM) | (with_reducible exact ev_noPart) | (with_reducible exact ev_dfA) | (with_reducible exact ev_mk0)
  | ((with_reducible apply ev_name); (exact rfl)) | ((with_reducible apply ev_nameM); (exact rfl)) | ((with_reducible apply ev_nameB); (exact rfl))
  | (with_reducible apply ev_consA) | (with_reducible apply ev_op2) | (with_reducible apply ev_op1) | (with_reducible apply ev_opN) | (with_reducible apply ev_call) | (with_reducible apply ev_val) | (with_reducible apply ev_notT)
  | ((with_reducible apply ev_and1); (focus ((array_get_dec; done))); (focus ((first | (with_reducible rfl) | (with_reducible assumption) | exact Bool.not_true | exact Bool.not_false | exact decide_eq_true (by first | (with_reducible assumption) | omega) | exact decide_eq_false (by first | (with_reducible assumption) | omega) | exact nd_t (by first | (with_reducible assumption) | omega) | exact nd_f (by first | (with_reducible assumption) | omega) | exact nb_t (by first | (with_reducible assumption) | omega) | exact nb_f (by first | (with_reducible assumption) | omega) | (simp only [decide_true, decide_false, Bool.not_true, Bool.not_false, Bool.true_and, Bool.and_true, Bool.false_and, Bool.and_false, Bool.or_true, Bool.true_or, Bool.or_false, Bool.false_or]; done))))) | ((with_reducible apply ev_and2); (focus ((array_get_dec; done))); (focus ((first | (with_reducible rfl) | (with_reducible assumption) | exact Bool.not_true | exact Bool.not_false | exact decide_eq_true (by first | (with_reducible assumption) | omega) | exact decide_eq_false (by first | (with_reducible assumption) | omega) | exact nd_t (by first | (with_reducible assumption) | omega) | exact nd_f (by first | (with_reducible assumption) | omega) | exact nb_t (by first | (with_reducible assumption) | omega) | exact nb_f (by first | (with_reducible assumption) | omega) | (simp only [decide_true, decide_false, Bool.not_true, Bool.not_false, Bool.true_and, Bool.and_true, Bool.false_and, Bool.and_false, Bool.or_true, Bool.true_or, Bool.or_false, Bool.false_or]; done))))) | ((with_reducible apply ev_or1); (focus ((array_get_dec; done))); (focus ((first | (with_reducible rfl) | (with_reducible assumption) | exact Bool.not_true | exact Bool.not_false | exact decide_eq_true (by first | (with_reducible assumption) | omega) | exact decide_eq_false (by first | (with_reducible assumption) | omega) | exact nd_t (by first | (with_reducible assumption) | omega) | exact nd_f (by first | (with_reducible assumption) | omega) | exact nb_t (by first | (with_reducible assumption) | omega) | exact nb_f (by first | (with_reducible assumption) | omega) | (simp only [decide_true, decide_false, Bool.not_true, Bool.not_false, Bool.true_and, Bool.and_true, Bool.false_and, Bool.and_false, Bool.or_true, Bool.true_or, Bool.or_false, Bool.false_or]; done))))) | ((with_reducible apply ev_or2); (focus ((array_get_dec; done))); (focus ((first | (with_reducible rfl) | (with_reducible assumption) | exact Bool.not_true | exact Bool.not_false | exact decide_eq_true (by first | (with_reducible assumption) | omega) | exact decide_eq_false (by first | (with_reducible assumption) | omega) | exact nd_t (by first | (with_reducible assumption) | omega) | exact nd_f (by first | (with_reducible assumption) | omega) | exact nb_t (by first | (with_reducible assumption) | omega) | exact nb_f (by first | (with_reducible assumption) | omega) | (simp only [decide_true, decide_false, Bool.not_true, Bool.not_false, Bool.true_and, Bool.and_true, Bool.false_and, Bool.and_false, Bool.or_true, Bool.true_or, Bool.or_false, Bool.false_or]; done))))) | ((with_reducible apply ev_ifE1); (focus ((array_get_dec; done))); (focus ((first | (with_reducible rfl) | (with_reducible assumption) | exact Bool.not_true | exact Bool.not_false | exact decide_eq_true (by first | (with_reducible assumption) | omega) | exact decide_eq_false (by first | (with_reducible assumption) | omega) | exact nd_t (by first | (with_reducible assumption) | omega) | exact nd_f (by first | (with_reducible assumption) | omega) | exact nb_t (by first | (with_reducible assumption) | omega) | exact nb_f (by first | (with_reducible assumption) | omega) | (simp only [decide_true, decide_false, Bool.not_true, Bool.not_false, Bool.true_and, Bool.and_true, Bool.false_and, Bool.and_false, Bool.or_true, Bool.true_or, Bool.or_false, Bool.false_or]; done))))) | ((with_reducible apply ev_ifE2); (focus ((array_get_dec; done))); (focus ((first | (with_reducible rfl) | (with_reducible assumption) | exact Bool.not_true | exact Bool.not_false | exact decide_eq_true (by first | (with_reducible assumption) | omega) | exact decide_eq_false (by first | (with_reducible assumption) | omega) | exact nd_t (by first | (with_reducible assumption) | omega) | exact nd_f (by first | (with_reducible assumption) | omega) | exact nb_t (by first | (with_reducible assumption) | omega) | exact nb_f (by first | (with_reducible assumption) | omega) | (simp only [decide_true, decide_false, Bool.not_true, Bool.not_false, Bool.true_and, Bool.and_true, Bool.false_and, Bool.and_false, Bool.or_true, Bool.true_or, Bool.or_false, Bool.false_or]; done))))) | ((with_reducible apply ev_ifF1); (focus ((array_get_dec; done))); (focus ((first | (with_reducible rfl) | (with_reducible assumption) | exact Bool.not_true | exact Bool.not_false | exact decide_eq_true (by first | (with_reducible assumption) | omega) | exact decide_eq_false (by first | (with_reducible assumption) | omega) | exact nd_t (by first | (with_reducible assumption) | omega) | exact nd_f (by first | (with_reducible assumption) | omega) | exact nb_t (by first | (with_reducible assumption) | omega) | exact nb_f (by first | (with_reducible assumption) | omega) | (simp only [decide_true, decide_false, Bool.not_true, Bool.not_false, Bool.true_and, Bool.and_true, Bool.false_and, Bool.and_false, Bool.or_true, Bool.true_or, Bool.or_false, Bool.false_or]; done))))) | ((with_reducible apply ev_ifF2); (focus ((array_get_dec; done))); (focus ((first | (with_reducible rfl) | (with_reducible assumption) | exact Bool.not_true | exact Bool.not_false | exact decide_eq_true (by first | (with_reducible assumption) | omega) | exact decide_eq_false (by first | (with_reducible assumption) | omega) | exact nd_t (by first | (with_reducible assumption) | omega) | exact nd_f (by first | (with_reducible assumption) | omega) | exact nb_t (by first | (with_reducible assumption) | omega) | exact nb_f (by first | (with_reducible assumption) | omega) | (simp only [decide_true, decide_false, Bool.not_true, Bool.not_false, Bool.true_and, Bool.and_true, Bool.false_and, Bool.and_false, Bool.or_true, Bool.true_or, Bool.or_false, Bool.false_or]; done)))))
  | (with_reducible apply ev_and) | (with_reducible apply ev_or) | (with_reducible apply ev_frz) | (with_reducible apply ev_tup) | (with_reducible apply ev_lst) | (with_reducible apply ev_opNF) | (with_reducible apply ev_op2F) | (with_reducible apply ev_callB) | (with_reducible apply ev_starA) | (with_reducible apply ev_permA) | (with_reducible apply ev_app) | (with_reducible apply ev_ext) | (with_reducible apply ev_pop) | (with_reducible apply ev_rem) | (with_reducible apply ev_aPart) | (with_reducible apply ev_sl) | (with_reducible apply ev_ixT) | (with_reducible apply ev_andE) | (with_reducible apply ev_orE) | (with_reducible apply ev_notE) | (with_reducible apply ev_ifE) | (with_reducible apply ev_consMd) | (with_reducible apply ev_consMf) | (with_reducible apply ev_rng1) | (with_reducible apply ev_seqI) | (with_reducible apply ev_lrg1) | (with_reducible apply ev_lrg2) | (with_reducible apply ev_lzip) | (with_reducible apply ev_mk) | (with_reducible apply ev_strM) | (with_reducible apply ev_lstM)
  | (with_reducible apply dv_addL) | (with_reducible apply dv_addT) | (with_reducible apply dv_cat)
  | (with_reducible exact dv_eqI _ _) | (with_reducible exact dv_neI _ _) | (with_reducible exact dv_eqS _ _) | (with_reducible exact dv_neS _ _)
  | ((with_reducible show eqD _ _ = some _); exact dv_eqS _ _) | ((with_reducible show neD _ _ = some _); exact dv_neS _ _)
  | (with_reducible exact datAll_dsA _ _ _ (by rfl)) | (with_reducible exact datAll_ds _)
  | ((with_reducible show _ ≤ _); sizeOf_list_dec) | ((with_reducible show _ < _); sizeOf_list_dec)
  | ((with_reducible show (_ : Rho) = _); first | (dsimp only [List.set]; done) | exact rfl)
  | ((with_reducible show (_ : Nat) = _); exact rfl)
  | exact (rfl : _ = some _) | exact (rfl : _ = true) | exact (rfl : _ = false)
  | (intro _))
local macro_rules | `(tactic| array_mem_dec) => `(tactic| repeat' first
  | with_reducible assumption
  | (with_reducible exact ev_next) | (with_reducible exact ev_raise0)
  | ((with_reducible apply ev_seqN); (focus (first | ((with_reducible apply ev_asg); (array_get_dec; done)) | ((with_reducible apply ev_asgM); (array_get_dec; done)) | ((with_reducible apply ev_par); (array_get_dec; done)) | ((with_reducible apply ev_drop); (array_get_dec; done)) | ((with_reducible apply ev_aug); (array_get_dec; done)) | ((with_reducible apply ev_put); (array_get_dec; done)) | (with_reducible assumption) | ((with_reducible apply ev_ifS2); (focus ((array_get_dec; done))); (focus ((first | (with_reducible rfl) | (with_reducible assumption) | exact Bool.not_true | exact Bool.not_false | exact decide_eq_true (by first | (with_reducible assumption) | omega) | exact decide_eq_false (by first | (with_reducible assumption) | omega) | exact nd_t (by first | (with_reducible assumption) | omega) | exact nd_f (by first | (with_reducible assumption) | omega) | exact nb_t (by first | (with_reducible assumption) | omega) | exact nb_f (by first | (with_reducible assumption) | omega) | (simp only [decide_true, decide_false, Bool.not_true, Bool.not_false, Bool.true_and, Bool.and_true, Bool.false_and, Bool.and_false, Bool.or_true, Bool.true_or, Bool.or_false, Bool.false_or]; done)))); exact ev_next))); (focus (first | (dsimp only [List.set, setsR]; done) | exact rfl)))
  | ((with_reducible apply ev_seqR); (focus ((with_reducible apply ev_ifS1); (focus ((array_get_dec; done))); (focus ((first | (with_reducible rfl) | (with_reducible assumption) | exact Bool.not_true | exact Bool.not_false | exact decide_eq_true (by first | (with_reducible assumption) | omega) | exact decide_eq_false (by first | (with_reducible assumption) | omega) | exact nd_t (by first | (with_reducible assumption) | omega) | exact nd_f (by first | (with_reducible assumption) | omega) | exact nb_t (by first | (with_reducible assumption) | omega) | exact nb_f (by first | (with_reducible assumption) | omega) | (simp only [decide_true, decide_false, Bool.not_true, Bool.not_false, Bool.true_and, Bool.and_true, Bool.false_and, Bool.and_false, Bool.or_true, Bool.true_or, Bool.or_false, Bool.false_or]; done)))); ((with_reducible apply ev_ret); (array_get_dec; done)))))
  | ((with_reducible apply ev_seqX); (focus ((with_reducible apply ev_ifS1); (focus ((array_get_dec; done))); (focus ((first | (with_reducible rfl) | (with_reducible assumption) | exact Bool.not_true | exact Bool.not_false | exact decide_eq_true (by first | (with_reducible assumption) | omega) | exact decide_eq_false (by first | (with_reducible assumption) | omega) | exact nd_t (by first | (with_reducible assumption) | omega) | exact nd_f (by first | (with_reducible assumption) | omega) | exact nb_t (by first | (with_reducible assumption) | omega) | exact nb_f (by first | (with_reducible assumption) | omega) | (simp only [decide_true, decide_false, Bool.not_true, Bool.not_false, Bool.true_and, Bool.and_true, Bool.false_and, Bool.and_false, Bool.or_true, Bool.true_or, Bool.or_false, Bool.false_or]; done)))); (first | exact ev_raise0 | ((with_reducible apply ev_raise); (array_get_dec; done))))))
  | ((with_reducible apply ev_seqN); (focus ((with_reducible apply ev_ifS1); (focus ((array_get_dec; done))); (focus ((first | (with_reducible rfl) | (with_reducible assumption) | exact Bool.not_true | exact Bool.not_false | exact decide_eq_true (by first | (with_reducible assumption) | omega) | exact decide_eq_false (by first | (with_reducible assumption) | omega) | exact nd_t (by first | (with_reducible assumption) | omega) | exact nd_f (by first | (with_reducible assumption) | omega) | exact nb_t (by first | (with_reducible assumption) | omega) | exact nb_f (by first | (with_reducible assumption) | omega) | (simp only [decide_true, decide_false, Bool.not_true, Bool.not_false, Bool.true_and, Bool.and_true, Bool.false_and, Bool.and_false, Bool.or_true, Bool.true_or, Bool.or_false, Bool.false_or]; done)))); (array_mem_dec; done))); (focus (first | (dsimp only [List.set, setsR]; done) | exact rfl)))
  | ((with_reducible apply ev_ifS1); (focus ((array_get_dec; done))); (focus ((first | (with_reducible rfl) | (with_reducible assumption) | exact Bool.not_true | exact Bool.not_false | exact decide_eq_true (by first | (with_reducible assumption) | omega) | exact decide_eq_false (by first | (with_reducible assumption) | omega) | exact nd_t (by first | (with_reducible assumption) | omega) | exact nd_f (by first | (with_reducible assumption) | omega) | exact nb_t (by first | (with_reducible assumption) | omega) | exact nb_f (by first | (with_reducible assumption) | omega) | (simp only [decide_true, decide_false, Bool.not_true, Bool.not_false, Bool.true_and, Bool.and_true, Bool.false_and, Bool.and_false, Bool.or_true, Bool.true_or, Bool.or_false, Bool.false_or]; done))))) | ((with_reducible apply ev_ifS2); (focus ((array_get_dec; done))); (focus ((first | (with_reducible rfl) | (with_reducible assumption) | exact Bool.not_true | exact Bool.not_false | exact decide_eq_true (by first | (with_reducible assumption) | omega) | exact decide_eq_false (by first | (with_reducible assumption) | omega) | exact nd_t (by first | (with_reducible assumption) | omega) | exact nd_f (by first | (with_reducible assumption) | omega) | exact nb_t (by first | (with_reducible assumption) | omega) | exact nb_f (by first | (with_reducible assumption) | omega) | (simp only [decide_true, decide_false, Bool.not_true, Bool.not_false, Bool.true_and, Bool.and_true, Bool.false_and, Bool.and_false, Bool.or_true, Bool.true_or, Bool.or_false, Bool.false_or]; done)))))
  | ((with_reducible apply ev_ret); (array_get_dec; done)) | ((with_reducible apply ev_retF); (array_get_dec; done)) | ((with_reducible apply ev_asg); (array_get_dec; done)) | ((with_reducible apply ev_asgM); (array_get_dec; done)) | ((with_reducible apply ev_par); (array_get_dec; done)) | ((with_reducible apply ev_drop); (array_get_dec; done)) | ((with_reducible apply ev_aug); (array_get_dec; done)) | ((with_reducible apply ev_put); (array_get_dec; done)) | ((with_reducible apply ev_raise); (array_get_dec; done)))
section
/-! ### the box of draws, the cells of the script -/
theorem take_pos {b0 b1 b2 n : Int} (h : 0 < b0) (h1 : 0 < n) (h2 : n < 1073741824) : f_law_take [b0, b1, b2] [.int n] = some (.int (b0 % n), [b0 / n, b1, b2]) := by
  simp [f_law_take, m_law_take, Lq.runF, Lq.runB, Lq.runL, Lq.boxAt, Lq.startR, Lq.seqS, Lq.nextS, Lq.ifS, Lq.asgS, Lq.asgM, Lq.asgG, Lq.retS, Lq.retF, Lq.dropS, Lq.forS, Lq.loopS, Lq.turnS, Lq.putItem, Lq.isMB, Lq.putS1, Lq.parS, Lq.consMd, Lq.consMf', Lq.noErr, Lq.nilM, Lq.setsR, Lq.nameE, Lq.constE, Lq.op1E, Lq.op2E, Lq.opNE, Lq.opNF, Lq.op2F, Lq.lift1, Lq.lift2, Lq.liftN, Lq.res, Lq.resAll, Lq.valT, Lq.notT, Lq.andT, Lq.orT, Lq.andE, Lq.orE, Lq.notE, Lq.ifE, Lq.consA, Lq.nilA, Lq.frzE, Lq.lstF, Lq.tupE, Lq.callE, Lq.callBE, Lq.callL, Lq.callNew, Lq.slotted, Lq.datAll, Lq.appE, Lq.popE, Lq.compF, Lq.compLoop, Lq.compTurn, Lq.yesT, Lq.wipeR, Lq.backR, Lq.plainC, Lq.nameG, Lq.tupG, Lq.consG, Lq.nilG, Lq.seqI, Lq.rngI1, Lq.rngI2, Lq.enumI, Lq.zipI, Lq.isiE, Lq.slE, Lq.aPart, Lq.noPart, Lq.chainE, Lq.strM, Lq.orF, Lq.R.bind, Lq.R.thnO, Lq.raiseS, Lq.raise0S, Lq.tryS, Lq.hNil, Lq.hAs, Lq.goneS, Lq.enumA, Lq.enumK, Lq.ifF, Lq.permA, Lq.permL, Lq.D.noL, Lq.noLs, Lq.isEx, Lq.fldD, Lq.isErrD, Lq.itemsOf, Lq.onlyB, Lq.isB, Lq.D.flat, Lq.starA, Lq.extE, Lq.augS, Lq.ixTE, Lq.mvS, Lq.dfA, Lq.slotD, Lq.propD, Lq.mkE, Lq.mkE0, Lq.callNewN, Lq.isErrND, Lq.callME, Lq.isBD, Lq.addD, Lq.catF, Lq.subD, Lq.mulD, Lq.fdivD, Lq.modD, Lq.powD, Lq.negD, Lq.ltD, Lq.leD, Lq.gtD, Lq.geD, Lq.eqD, Lq.neD, Lq.sameKind, Lq.isD, Lq.isntD, Lq.isNon, Lq.inD, Lq.ninD, Lq.anyEq, Lq.lenD, Lq.atD, Lq.cutD, Lq.revD, Lq.splitD, Lq.joinD, Lq.tupleD, Lq.tupleTD, Lq.listF, Lq.allD, Lq.anyD, Lq.sumD, Lq.absD, Lq.min2D, Lq.max2D, Lq.intD, Lq.strD, Lq.sortedF, Lq.isiB, Lq.tyName, Lq.notObj, Lq.D.items?, Lq.fits, L2.atI, L2.ixN, h, h1, h2]
theorem take_zero {b1 b2 n : Int} (h1 : 0 < n) (h3 : 0 ≤ b2) (h4 : b2 < 1000000000000) : f_law_take [0, b1, b2] [.int n] = some (.int (drawn b1 b2 n), [0, b1, b2 + 1]) := by
  have e1 : big (39373 + (b2 + 1)) = true := big_of (by omega) (by omega)
  have e2 : big 48271 = true := by decide
  have e3 : ∀ z : Int, big (z % 40009 + 7) = true := fun z => big_of (by omega) (by omega)
  simp [f_law_take, m_law_take, Lq.runF, Lq.runB, Lq.runL, Lq.boxAt, Lq.startR, Lq.seqS, Lq.nextS, Lq.ifS, Lq.asgS, Lq.asgM, Lq.asgG, Lq.retS, Lq.retF, Lq.dropS, Lq.forS, Lq.loopS, Lq.turnS, Lq.putItem, Lq.isMB, Lq.putS1, Lq.parS, Lq.consMd, Lq.consMf', Lq.noErr, Lq.nilM, Lq.setsR, Lq.nameE, Lq.constE, Lq.op1E, Lq.op2E, Lq.opNE, Lq.opNF, Lq.op2F, Lq.lift1, Lq.lift2, Lq.liftN, Lq.res, Lq.resAll, Lq.valT, Lq.notT, Lq.andT, Lq.orT, Lq.andE, Lq.orE, Lq.notE, Lq.ifE, Lq.consA, Lq.nilA, Lq.frzE, Lq.lstF, Lq.tupE, Lq.callE, Lq.callBE, Lq.callL, Lq.callNew, Lq.slotted, Lq.datAll, Lq.appE, Lq.popE, Lq.compF, Lq.compLoop, Lq.compTurn, Lq.yesT, Lq.wipeR, Lq.backR, Lq.plainC, Lq.nameG, Lq.tupG, Lq.consG, Lq.nilG, Lq.seqI, Lq.rngI1, Lq.rngI2, Lq.enumI, Lq.zipI, Lq.isiE, Lq.slE, Lq.aPart, Lq.noPart, Lq.chainE, Lq.strM, Lq.orF, Lq.R.bind, Lq.R.thnO, Lq.raiseS, Lq.raise0S, Lq.tryS, Lq.hNil, Lq.hAs, Lq.goneS, Lq.enumA, Lq.enumK, Lq.ifF, Lq.permA, Lq.permL, Lq.D.noL, Lq.noLs, Lq.isEx, Lq.fldD, Lq.isErrD, Lq.itemsOf, Lq.onlyB, Lq.isB, Lq.D.flat, Lq.starA, Lq.extE, Lq.augS, Lq.ixTE, Lq.mvS, Lq.dfA, Lq.slotD, Lq.propD, Lq.mkE, Lq.mkE0, Lq.callNewN, Lq.isErrND, Lq.callME, Lq.isBD, Lq.addD, Lq.catF, Lq.subD, Lq.mulD, Lq.fdivD, Lq.modD, Lq.powD, Lq.negD, Lq.ltD, Lq.leD, Lq.gtD, Lq.geD, Lq.eqD, Lq.neD, Lq.sameKind, Lq.isD, Lq.isntD, Lq.isNon, Lq.inD, Lq.ninD, Lq.anyEq, Lq.lenD, Lq.atD, Lq.cutD, Lq.revD, Lq.splitD, Lq.joinD, Lq.tupleD, Lq.tupleTD, Lq.listF, Lq.allD, Lq.anyD, Lq.sumD, Lq.absD, Lq.min2D, Lq.max2D, Lq.intD, Lq.strD, Lq.sortedF, Lq.isiB, Lq.tyName, Lq.notObj, Lq.D.items?, Lq.fits, L2.atI, L2.ixN, h1, e1, e2, e3, drawn]
theorem take_ok {k : Nat} {ns : List Int} {n : Int} (hb : Bx k ns) (h1 : 0 < n) (h2 : n < 1073741824) (hk : k < 1000000000000) : ∃ r ns', f_law_take ns [.int n] = some (.int r, ns') ∧ 0 ≤ r ∧ r < n ∧ Bx (k + 1) ns' := by
  obtain ⟨b0, b1, b2, rfl, g1, g2, g3, g4, g5⟩ := hb
  by_cases h : 0 < b0
  · exact ⟨_, _, take_pos h h1 h2, Int.emod_nonneg _ (by omega), Int.emod_lt_of_pos _ h1, ⟨_, _, _, rfl, Int.ediv_nonneg (by omega) (by omega), g2, g3, g4, by omega⟩⟩
  · have e : b0 = 0 := by omega
    subst e
    exact ⟨_, _, take_zero h1 g4 (by omega), Int.emod_nonneg _ (by omega), Int.emod_lt_of_pos _ h1, ⟨_, _, _, rfl, by omega, g2, g3, by omega, by omega⟩⟩
theorem box_ok {ms : List Int} {k : Nat} (hk : k < ms.length) (h3 : ms.length ≤ 3) : ∃ b0 b1, f_law_box [.lst (ms.map D.int), .int k] = some [.int b0, .int b1, .int 0] ∧ Bx 0 [b0, b1, 0] := by
  have e2 : ∀ a : Int, big (if 1000000000000000000 ≤ a then 1 else 0) = true := fun a => by split <;> decide
  have e3 : big 39373 = true := by decide
  have hg : (ms.map D.int)[k]? = some (.int ms[k]) := by rw [List.getElem?_map, List.getElem?_eq_getElem hk]; rfl
  refine ⟨(if ms[k] < 0 then -ms[k] else ms[k]) * (if decide (1000000000000000000 ≤ (if ms[k] < 0 then -ms[k] else ms[k])) = true then 1 else 0), ms[k] % 2305843009213693951 + 39373 * (k : Int) + 83002, ?_, ⟨_, _, _, rfl, ?_, ?_, ?_, ?_, ?_⟩⟩
  · simp [f_law_box, m_law_box, Lq.runF, Lq.runB, Lq.runL, Lq.boxAt, Lq.startR, Lq.seqS, Lq.nextS, Lq.ifS, Lq.asgS, Lq.asgM, Lq.asgG, Lq.retS, Lq.retF, Lq.dropS, Lq.forS, Lq.loopS, Lq.turnS, Lq.putItem, Lq.isMB, Lq.putS1, Lq.parS, Lq.consMd, Lq.consMf', Lq.noErr, Lq.nilM, Lq.setsR, Lq.nameE, Lq.constE, Lq.op1E, Lq.op2E, Lq.opNE, Lq.opNF, Lq.op2F, Lq.lift1, Lq.lift2, Lq.liftN, Lq.res, Lq.resAll, Lq.valT, Lq.notT, Lq.andT, Lq.orT, Lq.andE, Lq.orE, Lq.notE, Lq.ifE, Lq.consA, Lq.nilA, Lq.frzE, Lq.lstF, Lq.tupE, Lq.callE, Lq.callBE, Lq.callL, Lq.callNew, Lq.slotted, Lq.datAll, Lq.appE, Lq.popE, Lq.compF, Lq.compLoop, Lq.compTurn, Lq.yesT, Lq.wipeR, Lq.backR, Lq.plainC, Lq.nameG, Lq.tupG, Lq.consG, Lq.nilG, Lq.seqI, Lq.rngI1, Lq.rngI2, Lq.enumI, Lq.zipI, Lq.isiE, Lq.slE, Lq.aPart, Lq.noPart, Lq.chainE, Lq.strM, Lq.orF, Lq.R.bind, Lq.R.thnO, Lq.raiseS, Lq.raise0S, Lq.tryS, Lq.hNil, Lq.hAs, Lq.goneS, Lq.enumA, Lq.enumK, Lq.ifF, Lq.permA, Lq.permL, Lq.D.noL, Lq.noLs, Lq.isEx, Lq.fldD, Lq.isErrD, Lq.itemsOf, Lq.onlyB, Lq.isB, Lq.D.flat, Lq.starA, Lq.extE, Lq.augS, Lq.ixTE, Lq.mvS, Lq.dfA, Lq.slotD, Lq.propD, Lq.mkE, Lq.mkE0, Lq.callNewN, Lq.isErrND, Lq.callME, Lq.isBD, Lq.addD, Lq.catF, Lq.subD, Lq.mulD, Lq.fdivD, Lq.modD, Lq.powD, Lq.negD, Lq.ltD, Lq.leD, Lq.gtD, Lq.geD, Lq.eqD, Lq.neD, Lq.sameKind, Lq.isD, Lq.isntD, Lq.isNon, Lq.inD, Lq.ninD, Lq.anyEq, Lq.lenD, Lq.atD, Lq.cutD, Lq.revD, Lq.splitD, Lq.joinD, Lq.tupleD, Lq.tupleTD, Lq.listF, Lq.allD, Lq.anyD, Lq.sumD, Lq.absD, Lq.min2D, Lq.max2D, Lq.intD, Lq.strD, Lq.sortedF, Lq.isiB, Lq.tyName, Lq.notObj, Lq.D.items?, Lq.fits, L2.atI, L2.ixN, e2, e3, hk, hg]
  · exact Int.mul_nonneg (by split <;> omega) ((fun b : Bool => (by cases b <;> decide : (0 : Int) ≤ if b = true then 1 else 0)) _)
  · have := Int.emod_nonneg ms[k] (show (2305843009213693951 : Int) ≠ 0 by decide); omega
  · have := Int.emod_lt_of_pos ms[k] (show (0 : Int) < 2305843009213693951 by decide); omega
  · omega
  · omega
theorem cells_loop {ns : List Int} : ∀ (xs : List Int) (i : Nat) (ms : List Int) (c3 c4 c5 : Cell), ms.length = 3 → i + xs.length ≤ 63 → ∃ (ms' : List Int) (c3' c4' c5' : Cell), ms'.length = 3 ∧
    loopS (turnS m_law_cells_g1 m_law_cells_b1) (((xs.map D.int).zipIdx i).map fun p => D.tup [.int (p.2 : Nat), p.1]) [.d (.scr ns), .d (.int 3), .m (ms.map D.int), c3, c4, c5] = .nx [.d (.scr ns), .d (.int 3), .m (ms'.map D.int), c3', c4', c5']
  | [], i, ms, c3, c4, c5, h, _ => ⟨ms, c3, c4, c5, h, by simp [loopS]⟩
  | x :: xs, i, ms, c3, c4, c5, h, hl => by
    rw [List.length_cons] at hl
    have hj : ((i : Int) % 3).toNat < ms.length := by omega
    have hj0 : 0 ≤ (i : Int) % 3 := Int.emod_nonneg _ (by decide)
    have hj1 : (i : Int) % 3 < 3 := Int.emod_lt_of_pos _ (by decide)
    have hg : (ms.map D.int)[((i : Int) % 3).toNat]? = some (.int ms[((i : Int) % 3).toNat]) := by rw [List.getElem?_map, List.getElem?_eq_getElem hj]; rfl
    obtain ⟨ms', a3, a4, a5, hm, e⟩ := cells_loop xs (i + 1) (ms.set ((i : Int) % 3).toNat (ms[((i : Int) % 3).toNat] + x * ((i : Int) + 2))) (.d (.int i)) (.d (.int x)) (.d (.int ((i : Int) % 3))) (by rw [List.length_set]; exact h) (by omega)
    refine ⟨ms', a3, a4, a5, hm, ?_⟩
    rw [List.map_cons, List.zipIdx_cons, List.map_cons, loopS]
    have eb : turnS m_law_cells_g1 m_law_cells_b1 (D.tup [.int (i : Nat), .int x]) [.d (.scr ns), .d (.int 3), .m (ms.map D.int), c3, c4, c5] = .nx [.d (.scr ns), .d (.int 3), .m ((ms.set ((i : Int) % 3).toNat (ms[((i : Int) % 3).toNat] + x * ((i : Int) + 2))).map D.int), .d (.int i), .d (.int x), .d (.int ((i : Int) % 3))] := by
      have hb : big ((i : Int) + 2) = true := big_of (by omega) (by omega)
      simp [m_law_cells_g1, m_law_cells_b1, Lq.runF, Lq.runB, Lq.runL, Lq.boxAt, Lq.startR, Lq.seqS, Lq.nextS, Lq.ifS, Lq.asgS, Lq.asgM, Lq.asgG, Lq.retS, Lq.retF, Lq.dropS, Lq.forS, Lq.loopS, Lq.turnS, Lq.putItem, Lq.isMB, Lq.putS1, Lq.parS, Lq.consMd, Lq.consMf', Lq.noErr, Lq.nilM, Lq.setsR, Lq.nameE, Lq.constE, Lq.op1E, Lq.op2E, Lq.opNE, Lq.opNF, Lq.op2F, Lq.lift1, Lq.lift2, Lq.liftN, Lq.res, Lq.resAll, Lq.valT, Lq.notT, Lq.andT, Lq.orT, Lq.andE, Lq.orE, Lq.notE, Lq.ifE, Lq.consA, Lq.nilA, Lq.frzE, Lq.lstF, Lq.tupE, Lq.callE, Lq.callBE, Lq.callL, Lq.callNew, Lq.slotted, Lq.datAll, Lq.appE, Lq.popE, Lq.compF, Lq.compLoop, Lq.compTurn, Lq.yesT, Lq.wipeR, Lq.backR, Lq.plainC, Lq.nameG, Lq.tupG, Lq.consG, Lq.nilG, Lq.seqI, Lq.rngI1, Lq.rngI2, Lq.enumI, Lq.zipI, Lq.isiE, Lq.slE, Lq.aPart, Lq.noPart, Lq.chainE, Lq.strM, Lq.orF, Lq.R.bind, Lq.R.thnO, Lq.raiseS, Lq.raise0S, Lq.tryS, Lq.hNil, Lq.hAs, Lq.goneS, Lq.enumA, Lq.enumK, Lq.ifF, Lq.permA, Lq.permL, Lq.D.noL, Lq.noLs, Lq.isEx, Lq.fldD, Lq.isErrD, Lq.itemsOf, Lq.onlyB, Lq.isB, Lq.D.flat, Lq.starA, Lq.extE, Lq.augS, Lq.ixTE, Lq.mvS, Lq.dfA, Lq.slotD, Lq.propD, Lq.mkE, Lq.mkE0, Lq.callNewN, Lq.isErrND, Lq.callME, Lq.isBD, Lq.addD, Lq.catF, Lq.subD, Lq.mulD, Lq.fdivD, Lq.modD, Lq.powD, Lq.negD, Lq.ltD, Lq.leD, Lq.gtD, Lq.geD, Lq.eqD, Lq.neD, Lq.sameKind, Lq.isD, Lq.isntD, Lq.isNon, Lq.inD, Lq.ninD, Lq.anyEq, Lq.lenD, Lq.atD, Lq.cutD, Lq.revD, Lq.splitD, Lq.joinD, Lq.tupleD, Lq.tupleTD, Lq.listF, Lq.allD, Lq.anyD, Lq.sumD, Lq.absD, Lq.min2D, Lq.max2D, Lq.intD, Lq.strD, Lq.sortedF, Lq.isiB, Lq.tyName, Lq.notObj, Lq.D.items?, Lq.fits, L2.atI, L2.ixN, h, hj0, hj1, hg, hb, List.map_set]
    rw [eb]
    exact e
end
section
/-! ### draws from a list -/
theorem of_ok {k : Nat} {ns : List Int} {xs : List D} (hb : Bx k ns) (h0 : xs ≠ []) (h1 : xs.length ≤ 1000000) (hk : k < 1000000000000) : ∃ x ns', f_law_of ns [.lst xs] = some (x, ns') ∧ x ∈ xs ∧ Bx (k + 1) ns' := by
  have hp := List.length_pos_iff.2 h0
  obtain ⟨r, ns', e, g1, g2, g3⟩ := take_ok hb (n := xs.length) (by omega) (by omega) hk
  have hr : r.toNat < xs.length := by omega
  have hg : xs[r.toNat]? = some xs[r.toNat] := List.getElem?_eq_getElem hr
  refine ⟨xs[r.toNat], ns', ?_, List.getElem_mem hr, g3⟩
  simp [f_law_of, m_law_of, Lq.runF, Lq.runB, Lq.runL, Lq.boxAt, Lq.startR, Lq.seqS, Lq.nextS, Lq.ifS, Lq.asgS, Lq.asgM, Lq.asgG, Lq.retS, Lq.retF, Lq.dropS, Lq.forS, Lq.loopS, Lq.turnS, Lq.putItem, Lq.isMB, Lq.putS1, Lq.parS, Lq.consMd, Lq.consMf', Lq.noErr, Lq.nilM, Lq.setsR, Lq.nameE, Lq.constE, Lq.op1E, Lq.op2E, Lq.opNE, Lq.opNF, Lq.op2F, Lq.lift1, Lq.lift2, Lq.liftN, Lq.res, Lq.resAll, Lq.valT, Lq.notT, Lq.andT, Lq.orT, Lq.andE, Lq.orE, Lq.notE, Lq.ifE, Lq.consA, Lq.nilA, Lq.frzE, Lq.lstF, Lq.tupE, Lq.callE, Lq.callBE, Lq.callL, Lq.callNew, Lq.slotted, Lq.datAll, Lq.appE, Lq.popE, Lq.compF, Lq.compLoop, Lq.compTurn, Lq.yesT, Lq.wipeR, Lq.backR, Lq.plainC, Lq.nameG, Lq.tupG, Lq.consG, Lq.nilG, Lq.seqI, Lq.rngI1, Lq.rngI2, Lq.enumI, Lq.zipI, Lq.isiE, Lq.slE, Lq.aPart, Lq.noPart, Lq.chainE, Lq.strM, Lq.orF, Lq.R.bind, Lq.R.thnO, Lq.raiseS, Lq.raise0S, Lq.tryS, Lq.hNil, Lq.hAs, Lq.goneS, Lq.enumA, Lq.enumK, Lq.ifF, Lq.permA, Lq.permL, Lq.D.noL, Lq.noLs, Lq.isEx, Lq.fldD, Lq.isErrD, Lq.itemsOf, Lq.onlyB, Lq.isB, Lq.D.flat, Lq.starA, Lq.extE, Lq.augS, Lq.ixTE, Lq.mvS, Lq.dfA, Lq.slotD, Lq.propD, Lq.mkE, Lq.mkE0, Lq.callNewN, Lq.isErrND, Lq.callME, Lq.isBD, Lq.addD, Lq.catF, Lq.subD, Lq.mulD, Lq.fdivD, Lq.modD, Lq.powD, Lq.negD, Lq.ltD, Lq.leD, Lq.gtD, Lq.geD, Lq.eqD, Lq.neD, Lq.sameKind, Lq.isD, Lq.isntD, Lq.isNon, Lq.inD, Lq.ninD, Lq.anyEq, Lq.lenD, Lq.atD, Lq.cutD, Lq.revD, Lq.splitD, Lq.joinD, Lq.tupleD, Lq.tupleTD, Lq.listF, Lq.allD, Lq.anyD, Lq.sumD, Lq.absD, Lq.min2D, Lq.max2D, Lq.intD, Lq.strD, Lq.sortedF, Lq.isiB, Lq.tyName, Lq.notObj, Lq.D.items?, Lq.fits, L2.atI, L2.ixN, e, hg, g1, g2]
end
section
/-! ### equal data are the same; lists of lists -/
theorem same_ok : ∀ (n : Nat) (d : D), good n d = true → f_law_same n [d, d] = .ok (.bl true)
  | 0, _, h => by cases h
  | n + 1, d, h => by
    have hc : ∀ (xs : List D) (x : D) (hz : zipI (consA (nameE 0) (consA (nameE 1) nilA)) [.d x, .d x, .no, .no] = .ok (zipD xs xs) [.d x, .d x, .no, .no]), xs.length ≤ 1000000 → (∀ y ∈ xs, good n y = true) →
        opNE allD (consA (frzE (compF [2, 3] (zipI (consA (nameE 0) (consA (nameE 1) nilA))) (tupG 2 (consG (nameG 2) (consG (nameG 3) nilG))) yesT (m_law_same_e1 (f_law_same n)))) nilA) [.d x, .d x, .no, .no] = .ok (.d (.bl true)) [.d x, .d x, .no, .no] := fun xs x hz hl hg => by
      have e := compF_map (vs := [2, 3]) (gd := tupG 2 (consG (nameG 2) (consG (nameG 3) nilG))) (fe := m_law_same_e1 (f_law_same n)) (fun _ => D.bl true) hz rfl rfl rfl (by rw [zip_self_len]; exact hl) (fun d hd => by
        obtain ⟨y, hy, rfl⟩ := zip_self hd
        refine ⟨[.d x, .d x, .d y, .d y], [.d x, .d x, .d y, .d y], rfl, ?_, rfl⟩
        simp [m_law_same_e1, Lq.runF, Lq.runB, Lq.runL, Lq.boxAt, Lq.startR, Lq.seqS, Lq.nextS, Lq.ifS, Lq.asgS, Lq.asgM, Lq.asgG, Lq.retS, Lq.retF, Lq.dropS, Lq.forS, Lq.loopS, Lq.turnS, Lq.putItem, Lq.isMB, Lq.putS1, Lq.parS, Lq.consMd, Lq.consMf', Lq.noErr, Lq.nilM, Lq.setsR, Lq.nameE, Lq.constE, Lq.op1E, Lq.op2E, Lq.opNE, Lq.opNF, Lq.op2F, Lq.lift1, Lq.lift2, Lq.liftN, Lq.res, Lq.resAll, Lq.valT, Lq.notT, Lq.andT, Lq.orT, Lq.andE, Lq.orE, Lq.notE, Lq.ifE, Lq.consA, Lq.nilA, Lq.frzE, Lq.lstF, Lq.tupE, Lq.callE, Lq.callBE, Lq.callL, Lq.callNew, Lq.slotted, Lq.datAll, Lq.appE, Lq.popE, Lq.compF, Lq.compLoop, Lq.compTurn, Lq.yesT, Lq.wipeR, Lq.backR, Lq.plainC, Lq.nameG, Lq.tupG, Lq.consG, Lq.nilG, Lq.seqI, Lq.rngI1, Lq.rngI2, Lq.enumI, Lq.zipI, Lq.isiE, Lq.slE, Lq.aPart, Lq.noPart, Lq.chainE, Lq.strM, Lq.orF, Lq.R.bind, Lq.R.thnO, Lq.raiseS, Lq.raise0S, Lq.tryS, Lq.hNil, Lq.hAs, Lq.goneS, Lq.enumA, Lq.enumK, Lq.ifF, Lq.permA, Lq.permL, Lq.D.noL, Lq.noLs, Lq.isEx, Lq.fldD, Lq.isErrD, Lq.itemsOf, Lq.onlyB, Lq.isB, Lq.D.flat, Lq.starA, Lq.extE, Lq.augS, Lq.ixTE, Lq.mvS, Lq.dfA, Lq.slotD, Lq.propD, Lq.mkE, Lq.mkE0, Lq.callNewN, Lq.isErrND, Lq.callME, same_ok n y (hg y hy)])
      rw [map_yes] at e
      simp only [Lq.opNE, Lq.consA, Lq.nilA, Lq.frzE, e, Lq.R.bind, Lq.liftN, Lq.resAll, Lq.res, all_true]
    cases d with
    | obj _ _ => cases h
    | scr _ => cases h
    | lst xs =>
      obtain ⟨hl, hg⟩ : xs.length ≤ 1000000 ∧ ∀ y ∈ xs, good n y = true := by
        unfold good at h
        rw [Bool.and_eq_true] at h
        exact ⟨of_decide_eq_true h.1, List.all_eq_true.1 h.2⟩
      have e := hc xs (.lst xs) (by simp [Lq.runF, Lq.runB, Lq.runL, Lq.boxAt, Lq.startR, Lq.seqS, Lq.nextS, Lq.ifS, Lq.asgS, Lq.asgM, Lq.asgG, Lq.retS, Lq.retF, Lq.dropS, Lq.forS, Lq.loopS, Lq.turnS, Lq.putItem, Lq.isMB, Lq.putS1, Lq.parS, Lq.consMd, Lq.consMf', Lq.noErr, Lq.nilM, Lq.setsR, Lq.nameE, Lq.constE, Lq.op1E, Lq.op2E, Lq.opNE, Lq.opNF, Lq.op2F, Lq.lift1, Lq.lift2, Lq.liftN, Lq.res, Lq.resAll, Lq.valT, Lq.notT, Lq.andT, Lq.orT, Lq.andE, Lq.orE, Lq.notE, Lq.ifE, Lq.consA, Lq.nilA, Lq.frzE, Lq.lstF, Lq.tupE, Lq.callE, Lq.callBE, Lq.callL, Lq.callNew, Lq.slotted, Lq.datAll, Lq.appE, Lq.popE, Lq.compF, Lq.compLoop, Lq.compTurn, Lq.yesT, Lq.wipeR, Lq.backR, Lq.plainC, Lq.nameG, Lq.tupG, Lq.consG, Lq.nilG, Lq.seqI, Lq.rngI1, Lq.rngI2, Lq.enumI, Lq.zipI, Lq.isiE, Lq.slE, Lq.aPart, Lq.noPart, Lq.chainE, Lq.strM, Lq.orF, Lq.R.bind, Lq.R.thnO, Lq.raiseS, Lq.raise0S, Lq.tryS, Lq.hNil, Lq.hAs, Lq.goneS, Lq.enumA, Lq.enumK, Lq.ifF, Lq.permA, Lq.permL, Lq.D.noL, Lq.noLs, Lq.isEx, Lq.fldD, Lq.isErrD, Lq.itemsOf, Lq.onlyB, Lq.isB, Lq.D.flat, Lq.starA, Lq.extE, Lq.augS, Lq.ixTE, Lq.mvS, Lq.dfA, Lq.slotD, Lq.propD, Lq.mkE, Lq.mkE0, Lq.callNewN, Lq.isErrND, Lq.callME]) hl hg
      generalize hF : opNE allD (consA (frzE (compF [2, 3] (zipI (consA (nameE 0) (consA (nameE 1) nilA))) (tupG 2 (consG (nameG 2) (consG (nameG 3) nilG))) yesT (m_law_same_e1 (f_law_same n)))) nilA) = F at e
      rw [f_law_same, m_law_same, m_law_same_c1, hF]
      simp [Lq.runF, Lq.runB, Lq.runL, Lq.boxAt, Lq.startR, Lq.seqS, Lq.nextS, Lq.ifS, Lq.asgS, Lq.asgM, Lq.asgG, Lq.retS, Lq.retF, Lq.dropS, Lq.forS, Lq.loopS, Lq.turnS, Lq.putItem, Lq.isMB, Lq.putS1, Lq.parS, Lq.consMd, Lq.consMf', Lq.noErr, Lq.nilM, Lq.setsR, Lq.nameE, Lq.constE, Lq.op1E, Lq.op2E, Lq.opNE, Lq.opNF, Lq.op2F, Lq.lift1, Lq.lift2, Lq.liftN, Lq.res, Lq.resAll, Lq.valT, Lq.notT, Lq.andT, Lq.orT, Lq.andE, Lq.orE, Lq.notE, Lq.ifE, Lq.consA, Lq.nilA, Lq.frzE, Lq.lstF, Lq.tupE, Lq.callE, Lq.callBE, Lq.callL, Lq.callNew, Lq.slotted, Lq.datAll, Lq.appE, Lq.popE, Lq.compF, Lq.compLoop, Lq.compTurn, Lq.yesT, Lq.wipeR, Lq.backR, Lq.plainC, Lq.nameG, Lq.tupG, Lq.consG, Lq.nilG, Lq.seqI, Lq.rngI1, Lq.rngI2, Lq.enumI, Lq.zipI, Lq.isiE, Lq.slE, Lq.aPart, Lq.noPart, Lq.chainE, Lq.strM, Lq.orF, Lq.R.bind, Lq.R.thnO, Lq.raiseS, Lq.raise0S, Lq.tryS, Lq.hNil, Lq.hAs, Lq.goneS, Lq.enumA, Lq.enumK, Lq.ifF, Lq.permA, Lq.permL, Lq.D.noL, Lq.noLs, Lq.isEx, Lq.fldD, Lq.isErrD, Lq.itemsOf, Lq.onlyB, Lq.isB, Lq.D.flat, Lq.starA, Lq.extE, Lq.augS, Lq.ixTE, Lq.mvS, Lq.dfA, Lq.slotD, Lq.propD, Lq.mkE, Lq.mkE0, Lq.callNewN, Lq.isErrND, Lq.callME, Lq.isBD, Lq.addD, Lq.catF, Lq.subD, Lq.mulD, Lq.fdivD, Lq.modD, Lq.powD, Lq.negD, Lq.ltD, Lq.leD, Lq.gtD, Lq.geD, Lq.eqD, Lq.neD, Lq.sameKind, Lq.isD, Lq.isntD, Lq.isNon, Lq.inD, Lq.ninD, Lq.anyEq, Lq.lenD, Lq.atD, Lq.cutD, Lq.revD, Lq.splitD, Lq.joinD, Lq.tupleD, Lq.tupleTD, Lq.listF, Lq.allD, Lq.anyD, Lq.sumD, Lq.absD, Lq.min2D, Lq.max2D, Lq.intD, Lq.strD, Lq.sortedF, Lq.isiB, Lq.tyName, Lq.notObj, Lq.D.items?, Lq.fits, L2.atI, L2.ixN, e, Lq.deq]
    | tup xs =>
      obtain ⟨hl, hg⟩ : xs.length ≤ 1000000 ∧ ∀ y ∈ xs, good n y = true := by
        unfold good at h
        rw [Bool.and_eq_true] at h
        exact ⟨of_decide_eq_true h.1, List.all_eq_true.1 h.2⟩
      have e := hc xs (.tup xs) (by simp [Lq.runF, Lq.runB, Lq.runL, Lq.boxAt, Lq.startR, Lq.seqS, Lq.nextS, Lq.ifS, Lq.asgS, Lq.asgM, Lq.asgG, Lq.retS, Lq.retF, Lq.dropS, Lq.forS, Lq.loopS, Lq.turnS, Lq.putItem, Lq.isMB, Lq.putS1, Lq.parS, Lq.consMd, Lq.consMf', Lq.noErr, Lq.nilM, Lq.setsR, Lq.nameE, Lq.constE, Lq.op1E, Lq.op2E, Lq.opNE, Lq.opNF, Lq.op2F, Lq.lift1, Lq.lift2, Lq.liftN, Lq.res, Lq.resAll, Lq.valT, Lq.notT, Lq.andT, Lq.orT, Lq.andE, Lq.orE, Lq.notE, Lq.ifE, Lq.consA, Lq.nilA, Lq.frzE, Lq.lstF, Lq.tupE, Lq.callE, Lq.callBE, Lq.callL, Lq.callNew, Lq.slotted, Lq.datAll, Lq.appE, Lq.popE, Lq.compF, Lq.compLoop, Lq.compTurn, Lq.yesT, Lq.wipeR, Lq.backR, Lq.plainC, Lq.nameG, Lq.tupG, Lq.consG, Lq.nilG, Lq.seqI, Lq.rngI1, Lq.rngI2, Lq.enumI, Lq.zipI, Lq.isiE, Lq.slE, Lq.aPart, Lq.noPart, Lq.chainE, Lq.strM, Lq.orF, Lq.R.bind, Lq.R.thnO, Lq.raiseS, Lq.raise0S, Lq.tryS, Lq.hNil, Lq.hAs, Lq.goneS, Lq.enumA, Lq.enumK, Lq.ifF, Lq.permA, Lq.permL, Lq.D.noL, Lq.noLs, Lq.isEx, Lq.fldD, Lq.isErrD, Lq.itemsOf, Lq.onlyB, Lq.isB, Lq.D.flat, Lq.starA, Lq.extE, Lq.augS, Lq.ixTE, Lq.mvS, Lq.dfA, Lq.slotD, Lq.propD, Lq.mkE, Lq.mkE0, Lq.callNewN, Lq.isErrND, Lq.callME]) hl hg
      generalize hF : opNE allD (consA (frzE (compF [2, 3] (zipI (consA (nameE 0) (consA (nameE 1) nilA))) (tupG 2 (consG (nameG 2) (consG (nameG 3) nilG))) yesT (m_law_same_e1 (f_law_same n)))) nilA) = F at e
      rw [f_law_same, m_law_same, m_law_same_c1, hF]
      simp [Lq.runF, Lq.runB, Lq.runL, Lq.boxAt, Lq.startR, Lq.seqS, Lq.nextS, Lq.ifS, Lq.asgS, Lq.asgM, Lq.asgG, Lq.retS, Lq.retF, Lq.dropS, Lq.forS, Lq.loopS, Lq.turnS, Lq.putItem, Lq.isMB, Lq.putS1, Lq.parS, Lq.consMd, Lq.consMf', Lq.noErr, Lq.nilM, Lq.setsR, Lq.nameE, Lq.constE, Lq.op1E, Lq.op2E, Lq.opNE, Lq.opNF, Lq.op2F, Lq.lift1, Lq.lift2, Lq.liftN, Lq.res, Lq.resAll, Lq.valT, Lq.notT, Lq.andT, Lq.orT, Lq.andE, Lq.orE, Lq.notE, Lq.ifE, Lq.consA, Lq.nilA, Lq.frzE, Lq.lstF, Lq.tupE, Lq.callE, Lq.callBE, Lq.callL, Lq.callNew, Lq.slotted, Lq.datAll, Lq.appE, Lq.popE, Lq.compF, Lq.compLoop, Lq.compTurn, Lq.yesT, Lq.wipeR, Lq.backR, Lq.plainC, Lq.nameG, Lq.tupG, Lq.consG, Lq.nilG, Lq.seqI, Lq.rngI1, Lq.rngI2, Lq.enumI, Lq.zipI, Lq.isiE, Lq.slE, Lq.aPart, Lq.noPart, Lq.chainE, Lq.strM, Lq.orF, Lq.R.bind, Lq.R.thnO, Lq.raiseS, Lq.raise0S, Lq.tryS, Lq.hNil, Lq.hAs, Lq.goneS, Lq.enumA, Lq.enumK, Lq.ifF, Lq.permA, Lq.permL, Lq.D.noL, Lq.noLs, Lq.isEx, Lq.fldD, Lq.isErrD, Lq.itemsOf, Lq.onlyB, Lq.isB, Lq.D.flat, Lq.starA, Lq.extE, Lq.augS, Lq.ixTE, Lq.mvS, Lq.dfA, Lq.slotD, Lq.propD, Lq.mkE, Lq.mkE0, Lq.callNewN, Lq.isErrND, Lq.callME, Lq.isBD, Lq.addD, Lq.catF, Lq.subD, Lq.mulD, Lq.fdivD, Lq.modD, Lq.powD, Lq.negD, Lq.ltD, Lq.leD, Lq.gtD, Lq.geD, Lq.eqD, Lq.neD, Lq.sameKind, Lq.isD, Lq.isntD, Lq.isNon, Lq.inD, Lq.ninD, Lq.anyEq, Lq.lenD, Lq.atD, Lq.cutD, Lq.revD, Lq.splitD, Lq.joinD, Lq.tupleD, Lq.tupleTD, Lq.listF, Lq.allD, Lq.anyD, Lq.sumD, Lq.absD, Lq.min2D, Lq.max2D, Lq.intD, Lq.strD, Lq.sortedF, Lq.isiB, Lq.tyName, Lq.notObj, Lq.D.items?, Lq.fits, L2.atI, L2.ixN, e, Lq.deq]
    | _ => simp [f_law_same, m_law_same, m_law_same_c1, Lq.runF, Lq.runB, Lq.runL, Lq.boxAt, Lq.startR, Lq.seqS, Lq.nextS, Lq.ifS, Lq.asgS, Lq.asgM, Lq.asgG, Lq.retS, Lq.retF, Lq.dropS, Lq.forS, Lq.loopS, Lq.turnS, Lq.putItem, Lq.isMB, Lq.putS1, Lq.parS, Lq.consMd, Lq.consMf', Lq.noErr, Lq.nilM, Lq.setsR, Lq.nameE, Lq.constE, Lq.op1E, Lq.op2E, Lq.opNE, Lq.opNF, Lq.op2F, Lq.lift1, Lq.lift2, Lq.liftN, Lq.res, Lq.resAll, Lq.valT, Lq.notT, Lq.andT, Lq.orT, Lq.andE, Lq.orE, Lq.notE, Lq.ifE, Lq.consA, Lq.nilA, Lq.frzE, Lq.lstF, Lq.tupE, Lq.callE, Lq.callBE, Lq.callL, Lq.callNew, Lq.slotted, Lq.datAll, Lq.appE, Lq.popE, Lq.compF, Lq.compLoop, Lq.compTurn, Lq.yesT, Lq.wipeR, Lq.backR, Lq.plainC, Lq.nameG, Lq.tupG, Lq.consG, Lq.nilG, Lq.seqI, Lq.rngI1, Lq.rngI2, Lq.enumI, Lq.zipI, Lq.isiE, Lq.slE, Lq.aPart, Lq.noPart, Lq.chainE, Lq.strM, Lq.orF, Lq.R.bind, Lq.R.thnO, Lq.raiseS, Lq.raise0S, Lq.tryS, Lq.hNil, Lq.hAs, Lq.goneS, Lq.enumA, Lq.enumK, Lq.ifF, Lq.permA, Lq.permL, Lq.D.noL, Lq.noLs, Lq.isEx, Lq.fldD, Lq.isErrD, Lq.itemsOf, Lq.onlyB, Lq.isB, Lq.D.flat, Lq.starA, Lq.extE, Lq.augS, Lq.ixTE, Lq.mvS, Lq.dfA, Lq.slotD, Lq.propD, Lq.mkE, Lq.mkE0, Lq.callNewN, Lq.isErrND, Lq.callME, Lq.isBD, Lq.addD, Lq.catF, Lq.subD, Lq.mulD, Lq.fdivD, Lq.modD, Lq.powD, Lq.negD, Lq.ltD, Lq.leD, Lq.gtD, Lq.geD, Lq.eqD, Lq.neD, Lq.sameKind, Lq.isD, Lq.isntD, Lq.isNon, Lq.inD, Lq.ninD, Lq.anyEq, Lq.lenD, Lq.atD, Lq.cutD, Lq.revD, Lq.splitD, Lq.joinD, Lq.tupleD, Lq.tupleTD, Lq.listF, Lq.allD, Lq.anyD, Lq.sumD, Lq.absD, Lq.min2D, Lq.max2D, Lq.intD, Lq.strD, Lq.sortedF, Lq.isiB, Lq.tyName, Lq.notObj, Lq.D.items?, Lq.fits, L2.atI, L2.ixN, Lq.deq]
end
section
/-! ### Turns in plain data -/
abbrev Rn := Bool × Int
def hS (b : Bool) : Str := if b then "a" else "b"
def hD (b : Bool) : D := .str (hS b)
def rD (r : Rn) : D := .tup [hD r.1, .int r.2]
theorem snoc_cases {α : Type} (l : List α) : l = [] ∨ ∃ l' b, l = l' ++ [b] := by
  rcases List.eq_nil_or_concat l with h | ⟨l', b, h⟩
  · exact .inl h
  · exact .inr ⟨l', b, by rw [h, List.concat_eq_append]⟩
theorem at_last (xs : List D) (y : D) : atD (.tup (xs ++ [y])) (.int (-1)) = some y := by
  show L2.atI (xs ++ [y]) (-1) = _
  unfold L2.atI L2.ixN
  rw [if_neg (by omega), if_pos (by simp; omega)]
  have : ((-1 : Int) + ((xs ++ [y]).length : Nat)).toNat = xs.length := by simp; omega
  rw [this]; simp
theorem hS_eq (a b : Bool) : (hS a == hS b) = decide (a = b) := by cases a <;> cases b <;> decide
theorem tup_at0 (x y : D) : atD (.tup [x, y]) (.int 0) = some x := rfl
theorem tup_at1 (x y : D) : atD (.tup [x, y]) (.int 1) = some y := rfl
/-! ends -/
/-! tupled -/
/-- what stands for these runs: a list or a tuple of pairs or of lists of two -/
def AsR (rs : List Rn) (x : D) : Prop := ∃ xs, x.items? = some xs ∧ xs.length = rs.length ∧ ∀ (i : Nat) (d : D) (r : Rn), xs[i]? = some d → rs[i]? = some r → d = rD r ∨ d = .lst [hD r.1, .int r.2]
theorem AsR.of {rs : List Rn} {x : D} (h : x.items? = some (rs.map rD)) : AsR rs x := ⟨_, h, by simp, fun i d r h1 h2 => by
  rw [List.getElem?_map, h2] at h1; exact .inl (Option.some.inj h1).symm⟩
/-! __init__ -/
theorem in_heirs (b : Bool) : ninD (hD b) (.tup [.str "a", .str "b"]) = some (.bl false) := by
  have e := nin_strs (x := .tup [.str "a", .str "b"]) (ws := ["a", "b"]) rfl (hS b)
  have : decide (hS b ∈ (["a", "b"] : List Str)) = true := by cases b <;> decide
  rw [this] at e
  exact e
/-! its properties -/
end
section
/-! ### comprehensions over typed lists -/
theorem compLoop_t {α : Type} {vs : List Nat} {gd : D → Rho → Option Rho} {ft : Rho → R Bool} {fe : Rho → R VD} {ρ : Rho} {e : α → D} (p : α → Bool) (g : α → D) : ∀ (l : List α) (acc : List D), acc.length + l.length ≤ 1000000 →
    (∀ x ∈ l, ∃ ρ1, gd (e x) ρ = some ρ1 ∧ ft ρ1 = .ok (p x) ρ1 ∧ (p x = true → fe ρ1 = .ok (.d (g x)) ρ1) ∧ wipeR ρ1 vs = ρ) → Lq.compLoop vs gd ft fe acc (l.map e) ρ = .ok (acc ++ (l.filter p).map g) ρ
  | [], acc, _, _ => by simp [Lq.compLoop]
  | x :: l, acc, hl, h => by
    rw [List.length_cons] at hl
    obtain ⟨ρ1, e1, e2, e3, e4⟩ := h x List.mem_cons_self
    have hr := fun acc' ha => compLoop_t p g l acc' ha fun y hy => h y (List.mem_cons_of_mem _ hy)
    rw [List.map_cons, Lq.compLoop]
    cases hp : p x with
    | true =>
      have et : Lq.compTurn gd ft fe acc (e x) ρ = .ok (acc ++ [g x]) ρ1 := by simp only [Lq.compTurn, e1, e2, hp, R.bind, e3 hp, if_true, fits_of (show acc.length + 1 ≤ 1000000 by omega)]
      rw [et]; simp only [e4]
      rw [hr _ (by rw [List.length_append, List.length_singleton]; omega), List.filter_cons_of_pos hp]; simp
    | false =>
      have et : Lq.compTurn gd ft fe acc (e x) ρ = .ok acc ρ1 := by simp [Lq.compTurn, e1, e2, hp, R.bind]
      rw [et]; simp only [e4]
      rw [hr _ (by omega), List.filter_cons_of_neg (by simp [hp])]
theorem comp_t {α : Type} {vs : List Nat} {fi : Rho → R (List D)} {gd : D → Rho → Option Rho} {ft : Rho → R Bool} {fe : Rho → R VD} {ρ ρ0 : Rho} {l : List α} {e : α → D} {p : α → Bool} {g : α → D} (hi : fi ρ = .ok (l.map e) ρ0) (hp : (vs.all fun v => plainC (ρ0.getD v .no)) = true) (hl : l.length ≤ 1000000)
    (h : ∀ x ∈ l, ∃ ρ1, gd (e x) (wipeR ρ0 vs) = some ρ1 ∧ ft ρ1 = .ok (p x) ρ1 ∧ (p x = true → fe ρ1 = .ok (.d (g x)) ρ1) ∧ wipeR ρ1 vs = wipeR ρ0 vs) (hb : backR ρ0 (wipeR ρ0 vs) vs = ρ0 := by rfl) : Lq.compF vs fi gd ft fe ρ = .ok ((l.filter p).map g) ρ0 := by
  have e1 := compLoop_t (vs := vs) (gd := gd) (ft := ft) (fe := fe) p g l [] (by simpa using hl) h
  rw [List.nil_append] at e1
  simp only [Lq.compF, hi, R.bind, hp, e1, if_true, hb]
theorem comp_m {α : Type} {vs : List Nat} {fi : Rho → R (List D)} {gd : D → Rho → Option Rho} {fe : Rho → R VD} {ρ ρ0 : Rho} {l : List α} {e : α → D} {g : α → D} (hi : fi ρ = .ok (l.map e) ρ0) (hp : (vs.all fun v => plainC (ρ0.getD v .no)) = true) (hl : l.length ≤ 1000000)
    (h : ∀ x ∈ l, ∃ ρ1, gd (e x) (wipeR ρ0 vs) = some ρ1 ∧ fe ρ1 = .ok (.d (g x)) ρ1 ∧ wipeR ρ1 vs = wipeR ρ0 vs) (hb : backR ρ0 (wipeR ρ0 vs) vs = ρ0 := by rfl) : Lq.compF vs fi gd yesT fe ρ = .ok (l.map g) ρ0 := by
  have e1 := comp_t (vs := vs) (fi := fi) (gd := gd) (ft := yesT) (fe := fe) (p := fun _ => true) (g := g) hi hp hl (fun x hx => by
    obtain ⟨ρ1, h1, h2, h3⟩ := h x hx
    exact ⟨ρ1, h1, rfl, fun _ => h2, h3⟩) hb
  rw [e1, List.filter_eq_self.2 fun _ _ => rfl]
end
section
/-! ### drawn words, numbers and pairs -/
def wd (w : List Bool) : D := .tup (w.map hD)
theorem of_ab {x : D} (h : x ∈ [D.str "a", D.str "b"]) : ∃ b, x = hD b := by
  simp at h
  rcases h with rfl | rfl
  · exact ⟨true, rfl⟩
  · exact ⟨false, rfl⟩
end
section
/-! ### equal to itself -/
theorem fine_hD (n : Nat) (b : Bool) : fine (n + 1) (hD b) = true := by cases b <;> (show PyData.strOk _ = true) <;> decide +kernel
theorem fine_rD (n : Nat) (r : Rn) : fine (n + 2) (rD r) = true := by
  rw [rD, fine]; simp [fine_hD, fine]
theorem fine_rs (n : Nat) (rs : List Rn) : fine (n + 3) (.tup (rs.map rD)) = true := by
  rw [fine, List.all_eq_true]
  intro x hx
  obtain ⟨r, _, rfl⟩ := List.mem_map.1 hx
  exact fine_rD n r
theorem good_rs (n : Nat) {rs : List Rn} (h : rs.length ≤ 1000000) : good (n + 3) (.tup (rs.map rD)) = true := good_tup (by simpa using h) fun x hx => by
  obtain ⟨b, _, rfl⟩ := List.mem_map.1 hx; rfl
/-! ### the law's own joining -/
theorem at_lastL (xs : List D) (y : D) : atD (.lst (xs ++ [y])) (.int (-1)) = some y := at_last xs y
end
section
/-! ### lists of texts -/
theorem atL_of {v : List D} {i : Nat} {y : D} {k : Int} (h : v[i]? = some y) (hk : k = (i : Int)) : atD (.lst v) (.int k) = some y := by subst hk; exact dv_atL h
end
section
/-! ### runs that alternate are told by their turns one by one -/
def Alt : List Rn → Prop
  | [] => True
  | [r] => 0 < r.2
  | r :: s :: l => 0 < r.2 ∧ r.1 ≠ s.1 ∧ Alt (s :: l)
theorem Alt.tail : ∀ {r : Rn} {l : List Rn}, Alt (r :: l) → Alt l
  | _, [], _ => trivial
  | _, _ :: _, h => h.2.2
theorem Alt.head : ∀ {r : Rn} {l : List Rn}, Alt (r :: l) → 0 < r.2
  | _, [], h => h
  | _, _ :: _, h => h.1
theorem Alt.pos : ∀ {rs : List Rn}, Alt rs → ∀ q ∈ rs, 0 < q.2
  | [], _, _, hq => by cases hq
  | r :: l, h, q, hq => by
    rcases List.mem_cons.1 hq with rfl | hq
    · exact h.head
    · exact h.tail.pos q hq
theorem alt_snoc {l r : Rn} (hn : l.1 ≠ r.1) (hr : 0 < r.2) : ∀ {xs : List Rn}, Alt (xs ++ [l]) → Alt (xs ++ [l, r])
  | [], h => ⟨h, hn, hr⟩
  | [a], h => ⟨h.1, h.2.1, alt_snoc hn hr (xs := []) h.2.2⟩
  | a :: b :: xs, h => ⟨h.1, h.2.1, alt_snoc hn hr (xs := b :: xs) h.2.2⟩
/-! ### parts -/
end
section
/-! ### texts of runs, sign by sign -/
def hc (b : Bool) : Nat := if b then 97 else 98
def dg (n : Nat) : Str := Str.ofString (toString ((n : Nat) : Int))
def rS (r : Bool × Nat) : Str := hS r.1 ++ " " ++ dg r.2
theorem tl_hS (b : Bool) : TL.tl (hS b) = [hc b] := by cases b <;> decide +kernel
theorem tl_sp : TL.tl (" " : Str) = [32] := by decide +kernel
theorem tl_dg (n : Nat) : TL.tl (dg n) = TL.numL n := TL.tl_num n
theorem tl_rS (r : Bool × Nat) : TL.tl (rS r) = hc r.1 :: 32 :: TL.numL r.2 := by
  rw [rS, TL.tl_append, TL.tl_append, tl_hS, tl_sp, tl_dg]; rfl
theorem dg_len {n : Nat} (h : n < 10 ^ 20) : (TL.numL n).length ≤ 20 := TL.numL_len (by decide) h
theorem numL_lo {n c : Nat} (h : c ∈ TL.numL n) : 48 ≤ c ∧ c ≤ 57 := TL.numL_digits n c h
theorem numL_head {n : Nat} (h : 0 < n) : ∃ c r, TL.numL n = c :: r ∧ c ≠ 48 := by
  induction n using Nat.strongRecOn with
  | _ n ih =>
    by_cases h10 : n < 10
    · exact ⟨48 + n, [], TL.numL_lt h10, by omega⟩
    · obtain ⟨c, r, e, hc⟩ := ih (n / 10) (by omega) (by omega)
      exact ⟨c, r ++ [48 + n % 10], by rw [TL.numL_step (by omega), e]; rfl, hc⟩
/-! words of a piece -/
theorem sp_k : ((" " : Str).cps.all (· < 256)) = true := by decide +kernel
theorem join_w (ps : List Str) : Txt.join " " ps = Str.join " " ps := TL.join_eq _ _
theorem split_w {ps : List Str} (hn : ps ≠ []) (hf : ∀ p ∈ ps, 32 ∉ TL.tl p) : Txt.split (Str.join " " ps) " " = ps := by
  rw [← join_w]; exact TL.split_join tl_sp sp_k hn hf
theorem splitD_w {ps : List Str} (hn : ps ≠ []) (hf : ∀ p ∈ ps, 32 ∉ TL.tl p) (hl : (Str.join " " ps).length ≤ 1000) : splitD (Str.join " " ps) [.str " "] = some (.lst (ps.map D.str)) := by
  have h0 : ((" " : Str).length == 0) = false := by decide +kernel
  rw [Lq.splitD, split_w hn hf, h0, fits_of (by omega)]
  rfl
theorem rS_words (r : Bool × Nat) : rS r = Str.join " " [hS r.1, dg r.2] := rfl
/-! numbers -/
def DIG : Str := "0123456789"
theorem dig_tab : (List.range 128).all (fun c => inStr ⟨#[c]⟩ DIG == (Nat.ble 48 c && Nat.ble c 57) && ((⟨#[c]⟩ : Str) == "0") == (c == 48)) = true := by decide +kernel
theorem dig_at {c : Nat} (h : c < 128) : inStr ⟨#[c]⟩ DIG = (Nat.ble 48 c && Nat.ble c 57) ∧ ((⟨#[c]⟩ : Str) == "0") = (c == 48) := by
  have := List.all_eq_true.1 dig_tab c (List.mem_range.2 h)
  rw [Bool.and_eq_true, beq_iff_eq, beq_iff_eq] at this
  exact this
def digB (l : List Nat) : Bool := l.all fun c => Nat.ble 48 c && Nat.ble c 57
theorem digB_num (n : Nat) : digB (TL.numL n) = true := List.all_eq_true.2 fun c hc => by
  obtain ⟨h1, h2⟩ := numL_lo hc
  rw [Bool.and_eq_true, Nat.ble_eq, Nat.ble_eq]; exact ⟨h1, h2⟩
theorem num_c1 {v : Str} (h128 : ∀ c ∈ TL.tl v, c < 128) (hl : v.length ≤ 1000) : m_number_in_c1 [.d (.str v), .no] = .ok (((TL.tl v).map fun c => Nat.ble 48 c && Nat.ble c 57).map D.bl) [.d (.str v), .no] := by
  rw [List.map_map]
  rw [TL.len_tl] at hl
  refine comp_m (vs := [1]) (gd := nameG 1) (fe := m_number_in_e1) (ρ0 := [.d (.str v), .no]) (l := TL.tl v) (e := fun c => D.str ⟨#[c]⟩) (g := fun c => D.bl (Nat.ble 48 c && Nat.ble c 57)) (ev_seqI (x := .str v) (ev_name rfl) rfl) rfl (by omega) (fun c hc => ⟨[.d (.str v), .d (.str ⟨#[c]⟩)], rfl, ?_, rfl⟩)
  have e : inD (.str ⟨#[c]⟩) (.str "0123456789") = some (.bl (Nat.ble 48 c && Nat.ble c 57)) := by
    show some (D.bl (inStr ⟨#[c]⟩ DIG)) = _
    rw [(dig_at (h128 c hc)).1]
  unfold m_number_in_e1
  exact ev_op2 (ev_name rfl) ev_const rfl rfl e
theorem num_all {v : Str} : allD [.lst (((TL.tl v).map fun c => Nat.ble 48 c && Nat.ble c 57).map D.bl)] = some (.bl (digB (TL.tl v))) := by
  rw [allD, allOf_map_bl]
  show some (D.bl (((TL.tl v).map _).all id)) = _
  rw [List.all_map]; rfl
theorem num_bad {v : Str} (hne : v ≠ "") (h128 : ∀ c ∈ TL.tl v, c < 128) (hl : v.length ≤ 1000) (hd : digB (TL.tl v) = false) : f_number_in [.str v] = .ok .non := by
  have c1 := num_c1 h128 hl
  have al := num_all (v := v)
  rw [hd] at al
  have e0 : eqD (.str v) (.str "") = some (.bl false) := by rw [dv_eqS, decide_eq_false hne]
  generalize ((TL.tl v).map fun c => Nat.ble 48 c && Nat.ble c 57).map D.bl = M at *
  refine ev_runF [.d (.str v), .no] ⟨[.d (.str v), .no], ?_⟩
  unfold m_number_in
  exact ev_seqR (ev_ifS1 (b := true) (ev_or2 (b := false) (ev_val (ev_op2 (ev_name rfl) ev_const rfl rfl e0)) rfl (ev_or1 (b := true) (ev_notT (b := false) (ev_val (ev_opN (ev_consA (ev_frz c1) ev_nilA) rfl al))) rfl)) rfl (ev_ret ev_const))
theorem num_head {v : Str} {c : Nat} {r : List Nat} (hv : TL.tl v = c :: r) (hl : v.length ≤ 1000) : atD (.str v) (.int 0) = some (.str ⟨#[c]⟩) := by
  show (if fits v.length then (L2.atI v.cps.toList 0).map (fun c => D.str ⟨#[c]⟩) else none) = _
  rw [fits_of (by omega), if_pos rfl, show v.cps.toList = c :: r from hv]
  have : L2.atI (c :: r) 0 = some c := by
    unfold L2.atI L2.ixN
    rw [if_pos (by decide), if_pos (by simp)]
    rfl
  rw [this]; rfl
theorem num_zero {v : Str} {r : List Nat} (hv : TL.tl v = 48 :: r) (hr : r ≠ []) (hl : v.length ≤ 1000) (hd : digB (TL.tl v) = true) : f_number_in [.str v] = .ok .non := by
  have h128 : ∀ c ∈ TL.tl v, c < 128 := fun c hc => by
    have := List.all_eq_true.1 hd c hc
    rw [Bool.and_eq_true, Nat.ble_eq, Nat.ble_eq] at this; omega
  have hne : v ≠ "" := fun e => by
    have : TL.tl v = [] := by rw [e]; decide +kernel
    rw [hv] at this; cases this
  have hz : v ≠ "0" := fun e => by
    have : TL.tl v = [48] := by rw [e]; decide +kernel
    rw [hv] at this; injection this with _ q; exact hr q
  have c1 := num_c1 h128 hl
  have al := num_all (v := v)
  rw [hd] at al
  have e0 : eqD (.str v) (.str "") = some (.bl false) := by rw [dv_eqS, decide_eq_false hne]
  have a0 := num_head hv hl
  have e1 : eqD (.str ⟨#[48]⟩) (.str "0") = some (.bl true) := by show some (D.bl ((⟨#[48]⟩ : Str) == "0")) = _; rw [(dig_at (by decide)).2]; rfl
  have e2 : neD (.str v) (.str "0") = some (.bl true) := by rw [dv_neS, decide_eq_false hz]; rfl
  generalize ((TL.tl v).map fun c => Nat.ble 48 c && Nat.ble c 57).map D.bl = M at *
  refine ev_runF [.d (.str v), .no] ⟨[.d (.str v), .no], ?_⟩
  unfold m_number_in
  exact ev_seqR (ev_ifS1 (b := true) (ev_or2 (b := false) (ev_val (ev_op2 (ev_name rfl) ev_const rfl rfl e0)) rfl (ev_or2 (b := false) (ev_notT (b := true) (ev_val (ev_opN (ev_consA (ev_frz c1) ev_nilA) rfl al))) rfl (ev_and2 (b := true) (ev_val (ev_op2 (ev_op2 (ev_name rfl) ev_const rfl rfl a0) ev_const rfl rfl e1)) rfl (ev_val (ev_op2 (ev_name rfl) ev_const rfl rfl e2))))) rfl (ev_ret ev_const))
theorem num_ok {n : Nat} (h0 : 0 < n) (hn : n < 10 ^ 20) : f_number_in [.str (dg n)] = .ok (.int (n : Nat)) := by
  obtain ⟨c, r, hv, hc⟩ := numL_head h0
  have hL := dg_len hn
  have hl : (dg n).length ≤ 1000 := by rw [TL.len_tl, tl_dg]; omega
  have hd : digB (TL.tl (dg n)) = true := by rw [tl_dg]; exact digB_num n
  have h128 : ∀ c ∈ TL.tl (dg n), c < 128 := fun c hc => by rw [tl_dg] at hc; have := numL_lo hc; omega
  have hne : dg n ≠ "" := fun e => by
    have : TL.tl (dg n) = [] := by rw [e]; decide +kernel
    rw [tl_dg, hv] at this; cases this
  have c1 := num_c1 h128 hl
  have al := num_all (v := dg n)
  rw [hd] at al
  have e0 : eqD (.str (dg n)) (.str "") = some (.bl false) := by rw [dv_eqS, decide_eq_false hne]
  have hv2 := hv
  rw [← tl_dg] at hv2
  have c128 : c < 128 := by have := numL_lo (n := n) (c := c) (by rw [hv]; exact List.mem_cons_self); omega
  have a0 := num_head hv2 hl
  have e1 : eqD (.str ⟨#[c]⟩) (.str "0") = some (.bl false) := by
    show some (D.bl ((⟨#[c]⟩ : Str) == "0")) = _
    rw [(dig_at c128).2]
    congr 2
    rw [beq_eq_false_iff_ne]; exact hc
  have ei : intD [.str (dg n)] = some (.int (n : Nat)) := by
    show (if decide ((dg n).length ≤ 640) then (PySem.intText? (dg n)).map D.int else none) = _
    rw [decide_eq_true (by rw [TL.len_tl, tl_dg]; omega), if_pos rfl, show PySem.intText? (dg n) = some (n : Int) from TL.int_num (by omega)]
    rfl
  generalize ((TL.tl (dg n)).map fun c => Nat.ble 48 c && Nat.ble c 57).map D.bl = M at *
  refine ev_runF [.d (.str (dg n)), .no] ⟨[.d (.str (dg n)), .no], ?_⟩
  unfold m_number_in
  refine ev_seqN (ρ2 := [.d (.str (dg n)), .no]) (ev_ifS2 (b := false) (ev_or2 (b := false) (ev_val (ev_op2 (ev_name rfl) ev_const rfl rfl e0)) rfl (ev_or2 (b := false) (ev_notT (b := true) (ev_val (ev_opN (ev_consA (ev_frz c1) ev_nilA) rfl al))) rfl (ev_and1 (b := false) (ev_val (ev_op2 (ev_op2 (ev_name rfl) ev_const rfl rfl a0) ev_const rfl rfl e1)) rfl))) rfl ev_next) rfl ?_
  exact ev_ret (ev_opN (ev_consA (ev_name rfl) ev_nilA) rfl ei)
/-! one piece -/
theorem lenW (ws : List Str) : lenD [.lst (ws.map D.str)] = some (.int (ws.length : Nat)) := by rw [lenD, List.length_map]
theorem rin_len {ws : List Str} (hn : ws ≠ []) (hf : ∀ p ∈ ws, 32 ∉ TL.tl p) (hl : (Str.join " " ws).length ≤ 1000) (h2 : ws.length ≠ 2) : f_run_in [.str (Str.join " " ws)] = .ok .non := by
  have sp := splitD_w hn hf hl
  have ln := lenW ws
  have ne : neD (.int (ws.length : Nat)) (.int 2) = some (.bl true) := by rw [dv_neI, decide_eq_false (by omega)]; rfl
  generalize Str.join " " ws = x at *
  generalize D.lst (ws.map D.str) = M at *
  refine ev_runF [.d (.str x), .no] ⟨[.d (.str x), .d M], ?_⟩
  unfold m_run_in
  refine ev_seqN (ρ2 := [.d (.str x), .d M]) (ev_asg (ev_strM (ev_name rfl) (ev_consA ev_const ev_nilA) rfl sp)) rfl ?_
  exact ev_seqR (ev_ifS1 (b := true) (ev_or1 (b := true) (ev_val (ev_op2 (ev_opN (ev_consA (ev_name rfl) ev_nilA) rfl ln) ev_const rfl rfl ne)) rfl) rfl (ev_ret ev_const))
section
variable {u v : Str}
theorem rin_heir (hu : 32 ∉ TL.tl u) (hv : 32 ∉ TL.tl v) (hl : (Str.join " " [u, v]).length ≤ 1000) (h : u ∉ (["a", "b"] : List Str)) : f_run_in [.str (Str.join " " [u, v])] = .ok .non := by
  have sp := splitD_w (ps := [u, v]) (by simp) (fun p hp => by
    simp only [List.mem_cons, List.not_mem_nil, or_false] at hp
    rcases hp with rfl | rfl
    · exact hu
    · exact hv) hl
  have ne : neD (.int 2) (.int 2) = some (.bl false) := rfl
  have nn : ninD (.str u) (.tup [.str "a", .str "b"]) = some (.bl true) := by
    have := nin_strs (x := .tup [.str "a", .str "b"]) (ws := ["a", "b"]) rfl u
    rw [decide_eq_false h] at this
    exact this
  generalize Str.join " " [u, v] = x at *
  refine ev_runF [.d (.str x), .no] ⟨[.d (.str x), .d (.lst [.str u, .str v])], ?_⟩
  unfold m_run_in
  refine ev_seqN (ρ2 := [.d (.str x), .d (.lst [.str u, .str v])]) (ev_asg (ev_strM (ev_name rfl) (ev_consA ev_const ev_nilA) rfl sp)) rfl ?_
  exact ev_seqR (ev_ifS1 (b := true) (ev_or2 (b := false) (ev_val (ev_op2 (ev_opN (ev_consA (ev_name rfl) ev_nilA) rfl (rfl : lenD [.lst [.str u, .str v]] = some (.int 2))) ev_const rfl rfl ne)) rfl (ev_or1 (b := true) (ev_val (ev_op2 (ev_op2 (ev_name rfl) ev_const rfl rfl (rfl : atD (.lst [.str u, .str v]) (.int 0) = some (.str u))) ev_const rfl rfl nn)) rfl)) rfl (ev_ret ev_const))
theorem rin_num {d : D} {b : Bool} (hv : 32 ∉ TL.tl v) (hl : (Str.join " " [hS b, v]).length ≤ 1000) (hd : f_number_in [.str v] = .ok d) (h : d = .non ∨ d = .int 0) : f_run_in [.str (Str.join " " [hS b, v])] = .ok .non := by
  have sp := splitD_w (ps := [hS b, v]) (by simp) (fun p hp => by
    simp only [List.mem_cons, List.not_mem_nil, or_false] at hp
    rcases hp with rfl | rfl
    · rw [tl_hS]; cases b <;> decide
    · exact hv) hl
  have ne : neD (.int 2) (.int 2) = some (.bl false) := rfl
  have nn := in_heirs b
  have i0 : inD d (.tup [.non, .int 0]) = some (.bl true) := by rcases h with rfl | rfl <;> rfl
  generalize Str.join " " [hS b, v] = x at *
  refine ev_runF [.d (.str x), .no] ⟨[.d (.str x), .d (.lst [hD b, .str v])], ?_⟩
  unfold m_run_in
  refine ev_seqN (ρ2 := [.d (.str x), .d (.lst [hD b, .str v])]) (ev_asg (ev_strM (ev_name rfl) (ev_consA ev_const ev_nilA) rfl sp)) rfl ?_
  exact ev_seqR (ev_ifS1 (b := true) (ev_or2 (b := false) (ev_val (ev_op2 (ev_opN (ev_consA (ev_name rfl) ev_nilA) rfl (rfl : lenD [.lst [hD b, .str v]] = some (.int 2))) ev_const rfl rfl ne)) rfl (ev_or2 (b := false) (ev_val (ev_op2 (ev_op2 (ev_name rfl) ev_const rfl rfl (rfl : atD (.lst [hD b, .str v]) (.int 0) = some (hD b))) ev_const rfl rfl nn)) rfl (ev_val (ev_op2 (ev_call (ev_consA (ev_op2 (ev_name rfl) ev_const rfl rfl (rfl : atD (.lst [hD b, .str v]) (.int 1) = some (.str v))) ev_nilA) rfl hd rfl) (ev_tup (ev_consA ev_const (ev_consA ev_const ev_nilA)) rfl (by simp)) rfl rfl i0)))) rfl (ev_ret ev_const))
end
theorem rin_ok {r : Bool × Nat} (h0 : 0 < r.2) (hn : r.2 < 10 ^ 20) : f_run_in [.str (rS r)] = .ok (.tup [hD r.1, .int (r.2 : Nat)]) := by
  obtain ⟨b, n⟩ := r
  have hd := num_ok h0 hn
  have hL : (TL.numL n).length ≤ 20 := dg_len hn
  have l32 : ∀ m : Nat, 32 ∉ TL.tl (dg m) := fun m hm => by rw [tl_dg] at hm; have := numL_lo hm; omega
  have sp := splitD_w (ps := [hS b, dg n]) (by simp) (fun p hp => by
    simp only [List.mem_cons, List.not_mem_nil, or_false] at hp
    rcases hp with rfl | rfl
    · rw [tl_hS]; cases b <;> decide
    · exact l32 n) (by show (rS (b, n)).length ≤ 1000; rw [TL.len_tl, tl_rS]; simp only [List.length_cons]; omega)
  have ne : neD (.int 2) (.int 2) = some (.bl false) := rfl
  have nn := in_heirs b
  have i0 : inD (.int (n : Nat)) (.tup [.non, .int 0]) = some (.bl false) := by
    show some (D.bl (anyEq (.int (n : Nat)) [.non, .int 0])) = _
    congr 2
    show (false || ((0 : Int) == (n : Nat)) || false) = false
    rw [Bool.or_false, Bool.false_or, beq_eq_false_iff_ne]
    simp only at h0
    omega
  show f_run_in [.str (Str.join " " [hS b, dg n])] = _
  change f_number_in [.str (dg n)] = .ok (.int (n : Nat)) at hd
  generalize Str.join " " [hS b, dg n] = x at *
  refine ev_runF [.d (.str x), .no] ⟨[.d (.str x), .d (.lst [hD b, .str (dg n)])], ?_⟩
  unfold m_run_in
  refine ev_seqN (ρ2 := [.d (.str x), .d (.lst [hD b, .str (dg n)])]) (ev_asg (ev_strM (ev_name rfl) (ev_consA ev_const ev_nilA) rfl sp)) rfl ?_
  refine ev_seqN (ρ2 := [.d (.str x), .d (.lst [hD b, .str (dg n)])]) (ev_ifS2 (b := false) (ev_or2 (b := false) (ev_val (ev_op2 (ev_opN (ev_consA (ev_name rfl) ev_nilA) rfl (rfl : lenD [.lst [hD b, .str (dg n)]] = some (.int 2))) ev_const rfl rfl ne)) rfl (ev_or2 (b := false) (ev_val (ev_op2 (ev_op2 (ev_name rfl) ev_const rfl rfl (rfl : atD (.lst [hD b, .str (dg n)]) (.int 0) = some (hD b))) ev_const rfl rfl nn)) rfl (ev_val (ev_op2 (ev_call (ev_consA (ev_op2 (ev_name rfl) ev_const rfl rfl (rfl : atD (.lst [hD b, .str (dg n)]) (.int 1) = some (.str (dg n)))) ev_nilA) rfl hd rfl) (ev_tup (ev_consA ev_const (ev_consA ev_const ev_nilA)) rfl (by simp)) rfl rfl i0)))) rfl ev_next) rfl ?_
  exact ev_ret (ev_tup (ev_consA (ev_op2 (ev_name rfl) ev_const rfl rfl (rfl : atD (.lst [hD b, .str (dg n)]) (.int 0) = some (hD b))) (ev_consA (ev_call (ev_consA (ev_op2 (ev_name rfl) ev_const rfl rfl (rfl : atD (.lst [hD b, .str (dg n)]) (.int 1) = some (.str (dg n)))) ev_nilA) rfl hd rfl) ev_nilA)) rfl (by simp))
end
section
/-! ### pieces that are bent -/
structure BadP (x : Str) : Prop where
  free : 59 ∉ TL.tl x
  len : x.length ≤ 100
  bad : f_run_in [.str x] = .ok .non
section
variable {b : Bool} {n : Nat}
theorem hS_free (b : Bool) : 32 ∉ TL.tl (hS b) ∧ 59 ∉ TL.tl (hS b) ∧ (TL.tl (hS b)).length = 1 := by rw [tl_hS]; cases b <;> decide
theorem dg_free (n : Nat) : 32 ∉ TL.tl (dg n) ∧ 59 ∉ TL.tl (dg n) := ⟨fun hm => by rw [tl_dg] at hm; have := numL_lo hm; omega, fun hm => by rw [tl_dg] at hm; have := numL_lo hm; omega⟩
/-- words put together: no semicolon, not long -/
theorem jw_free {ws : List Str} (h : ∀ w ∈ ws, 59 ∉ TL.tl w) : 59 ∉ TL.tl (Str.join " " ws) := by
  induction ws with
  | nil => exact fun h => by have e : TL.tl (Str.join " " []) = [] := by decide +kernel
                             rw [e] at h; cases h
  | cons x r ih =>
    cases r with
    | nil => exact h x List.mem_cons_self
    | cons y r =>
      have e : Str.join " " (x :: y :: r) = x ++ " " ++ Str.join " " (y :: r) := rfl
      rw [e, TL.tl_append, TL.tl_append, List.mem_append, List.mem_append, tl_sp]
      rintro ((q | q) | q)
      · exact h x List.mem_cons_self q
      · simp at q
      · exact ih (fun w hw => h w (List.mem_cons_of_mem _ hw)) q
theorem jw_len {ws : List Str} (h : ∀ w ∈ ws, (TL.tl w).length ≤ 22) : (Str.join " " ws).length ≤ ws.length * 23 := by
  induction ws with
  | nil => exact Nat.le_of_eq (by decide +kernel)
  | cons x r ih =>
    cases r with
    | nil => have := h x List.mem_cons_self; show x.length ≤ 23; rw [TL.len_tl]; omega
    | cons y r =>
      have e : Str.join " " (x :: y :: r) = x ++ " " ++ Str.join " " (y :: r) := rfl
      have i := ih fun w hw => h w (List.mem_cons_of_mem _ hw)
      have hx := h x List.mem_cons_self
      rw [TL.len_tl] at i
      rw [e, TL.len_tl, TL.tl_append, TL.tl_append, List.length_append, List.length_append, tl_sp]
      simp only [List.length_cons, List.length_nil] at i ⊢
      omega
theorem bad_len {ws : List Str} (hn : ws ≠ []) (h2 : ws.length ≠ 2) (h4 : ws.length ≤ 4) (hf : ∀ w ∈ ws, 32 ∉ TL.tl w) (hs : ∀ w ∈ ws, 59 ∉ TL.tl w) (hl : ∀ w ∈ ws, (TL.tl w).length ≤ 22) : BadP (Str.join " " ws) := by
  have l := jw_len hl
  exact ⟨jw_free hs, by omega, rin_len hn hf (by omega) h2⟩
theorem tl_nil : TL.tl ("" : Str) = [] := by decide +kernel
theorem tl_one : TL.tl ("1" : Str) = [49] := by decide +kernel
theorem tl_x : TL.tl ("x" : Str) = [120] := by decide +kernel
theorem tl_0 : TL.tl ("0" : Str) = [48] := by decide +kernel
variable (h0 : 0 < n) (hn : n < 10 ^ 20)
include h0 hn
theorem bad1 : BadP (rS (b, n) ++ " ") := by
  have e : rS (b, n) ++ " " = Str.join " " [hS b, dg n, ""] := by
    apply TL.ext_tl
    rw [TL.tl_append, tl_rS]
    show _ = TL.tl (hS b ++ " " ++ (dg n ++ " " ++ ""))
    simp only [TL.tl_append, tl_hS, tl_sp, tl_dg, tl_nil]; simp
  have hL := dg_len hn
  rw [e]
  refine bad_len (by simp) (by simp) (by simp) (fun w hw => ?_) (fun w hw => ?_) fun w hw => ?_ <;> simp only [List.mem_cons, List.not_mem_nil, or_false] at hw <;> rcases hw with rfl | rfl | rfl
  · exact (hS_free b).1
  · exact (dg_free n).1
  · rw [tl_nil]; simp
  · exact (hS_free b).2.1
  · exact (dg_free n).2
  · rw [tl_nil]; simp
  · rw [(hS_free b).2.2]; omega
  · rw [tl_dg]; omega
  · rw [tl_nil]; simp
theorem bad2 : BadP (" " ++ rS (b, n)) := by
  have e : " " ++ rS (b, n) = Str.join " " ["", hS b, dg n] := by
    apply TL.ext_tl
    rw [TL.tl_append, tl_rS]
    show _ = TL.tl ("" ++ " " ++ (hS b ++ " " ++ dg n))
    simp only [TL.tl_append, tl_hS, tl_sp, tl_dg, tl_nil]; simp
  have hL := dg_len hn
  rw [e]
  refine bad_len (by simp) (by simp) (by simp) (fun w hw => ?_) (fun w hw => ?_) fun w hw => ?_ <;> simp only [List.mem_cons, List.not_mem_nil, or_false] at hw <;> rcases hw with rfl | rfl | rfl
  · rw [tl_nil]; simp
  · exact (hS_free b).1
  · exact (dg_free n).1
  · rw [tl_nil]; simp
  · exact (hS_free b).2.1
  · exact (dg_free n).2
  · rw [tl_nil]; simp
  · rw [(hS_free b).2.2]; omega
  · rw [tl_dg]; omega
omit h0 hn in
theorem repl_two {z : Str} : Txt.replace (rS (b, n)) " " z = hS b ++ z ++ dg n := by
  have e := PySem.StrLaws.replace_one (rS (b, n)) z 32
  rw [show (⟨#[32]⟩ : Str) = " " from by decide +kernel] at e
  rw [e, rS_words, split_w (by simp) (fun p hp => by
    simp only [List.mem_cons, List.not_mem_nil, or_false] at hp
    rcases hp with rfl | rfl
    · exact (hS_free b).1
    · exact (dg_free n).1)]
  rfl
theorem bad3 : BadP (Txt.replace (rS (b, n)) " " "  ") := by
  have e : Txt.replace (rS (b, n)) " " "  " = Str.join " " [hS b, "", dg n] := by
    rw [repl_two]
    apply TL.ext_tl
    show _ = TL.tl (hS b ++ " " ++ ("" ++ " " ++ dg n))
    have e2 : TL.tl ("  " : Str) = [32, 32] := by decide +kernel
    simp only [TL.tl_append, tl_hS, tl_sp, tl_dg, tl_nil, e2]; simp
  have hL := dg_len hn
  rw [e]
  refine bad_len (by simp) (by simp) (by simp) (fun w hw => ?_) (fun w hw => ?_) fun w hw => ?_ <;> simp only [List.mem_cons, List.not_mem_nil, or_false] at hw <;> rcases hw with rfl | rfl | rfl
  · exact (hS_free b).1
  · rw [tl_nil]; simp
  · exact (dg_free n).1
  · exact (hS_free b).2.1
  · rw [tl_nil]; simp
  · exact (dg_free n).2
  · rw [(hS_free b).2.2]; omega
  · rw [tl_nil]; simp
  · rw [tl_dg]; omega
omit h0 hn in
/-- two words, the second no number -/
theorem bad_num {v : Str} {d : D} (hf : 32 ∉ TL.tl v) (hs : 59 ∉ TL.tl v) (hl : (TL.tl v).length ≤ 22) (hd : f_number_in [.str v] = .ok d) (h : d = .non ∨ d = .int 0) : BadP (Str.join " " [hS b, v]) := by
  have l := jw_len (ws := [hS b, v]) fun w hw => by
    simp only [List.mem_cons, List.not_mem_nil, or_false] at hw
    rcases hw with rfl | rfl
    · rw [(hS_free b).2.2]; omega
    · exact hl
  simp only [List.length_cons, List.length_nil] at l
  refine ⟨jw_free fun w hw => ?_, by omega, rin_num hf (by omega) hd h⟩
  simp only [List.mem_cons, List.not_mem_nil, or_false] at hw
  rcases hw with rfl | rfl
  · exact (hS_free b).2.1
  · exact hs
omit h0 hn in
/-- two words, the first no heir -/
theorem bad_heir {u v : Str} (hu : 32 ∉ TL.tl u) (hv : 32 ∉ TL.tl v) (su : 59 ∉ TL.tl u) (sv : 59 ∉ TL.tl v) (lu : (TL.tl u).length ≤ 22) (lv : (TL.tl v).length ≤ 22) (h : u ∉ (["a", "b"] : List Str)) : BadP (Str.join " " [u, v]) := by
  have l := jw_len (ws := [u, v]) fun w hw => by
    simp only [List.mem_cons, List.not_mem_nil, or_false] at hw
    rcases hw with rfl | rfl
    · exact lu
    · exact lv
  simp only [List.length_cons, List.length_nil] at l
  refine ⟨jw_free fun w hw => ?_, by omega, rin_heir hu hv (by omega) h⟩
  simp only [List.mem_cons, List.not_mem_nil, or_false] at hw
  rcases hw with rfl | rfl
  · exact su
  · exact sv
theorem bad4 : BadP (Txt.replace (rS (b, n)) " " " 0") := by
  have e : Txt.replace (rS (b, n)) " " " 0" = Str.join " " [hS b, "0" ++ dg n] := by
    rw [repl_two]
    apply TL.ext_tl
    show _ = TL.tl (hS b ++ " " ++ ("0" ++ dg n))
    have e2 : TL.tl (" 0" : Str) = [32, 48] := by decide +kernel
    simp only [TL.tl_append, tl_hS, tl_sp, tl_dg, tl_0, e2]; simp
  have hL := dg_len hn
  have t : TL.tl ("0" ++ dg n) = 48 :: TL.numL n := by rw [TL.tl_append, tl_0, tl_dg]; rfl
  have hd : digB (TL.tl ("0" ++ dg n)) = true := by rw [t]; show (true && digB (TL.numL n)) = true; rw [digB_num]; rfl
  rw [e]
  refine bad_num (d := .non) ?_ ?_ ?_ (num_zero t (TL.numL_ne n) ?_ hd) (.inl rfl)
  · rw [t, List.mem_cons]; rintro (q | q)
    · omega
    · have := numL_lo q; omega
  · rw [t, List.mem_cons]; rintro (q | q)
    · omega
    · have := numL_lo q; omega
  · rw [t, List.length_cons]; omega
  · rw [TL.len_tl, t, List.length_cons]; omega
theorem bad5 : BadP (rS (b, n) ++ "x") := by
  have e : rS (b, n) ++ "x" = Str.join " " [hS b, dg n ++ "x"] := by
    apply TL.ext_tl
    rw [TL.tl_append, tl_rS]
    show _ = TL.tl (hS b ++ " " ++ (dg n ++ "x"))
    simp only [TL.tl_append, tl_hS, tl_sp, tl_dg, tl_x]; simp
  have hL := dg_len hn
  have t : TL.tl (dg n ++ "x") = TL.numL n ++ [120] := by rw [TL.tl_append, tl_x, tl_dg]
  have m : ∀ c ∈ TL.numL n ++ [120], (48 ≤ c ∧ c ≤ 57) ∨ c = 120 := fun c hc => by
    rcases List.mem_append.1 hc with q | q
    · exact .inl (numL_lo q)
    · exact .inr (List.mem_singleton.1 q)
  rw [e]
  refine bad_num (d := .non) ?_ ?_ ?_ (num_bad ?_ ?_ ?_ ?_) (.inl rfl)
  · rw [t]; intro q; have := m _ q; omega
  · rw [t]; intro q; have := m _ q; omega
  · rw [t, List.length_append]; simp; omega
  · intro q
    have : TL.tl (dg n ++ "x") = [] := by rw [q]; exact tl_nil
    rw [t] at this; simp at this
  · rw [t]; intro c hc; have := m c hc; omega
  · rw [TL.len_tl, t, List.length_append]; simp; omega
  · rw [t]; unfold digB; rw [List.all_append]; rw [Bool.and_eq_false_iff]; right; rfl
theorem bad11 : BadP (rS (b, n) ++ " 1") := by
  have e : rS (b, n) ++ " 1" = Str.join " " [hS b, dg n, "1"] := by
    apply TL.ext_tl
    rw [TL.tl_append, tl_rS]
    show _ = TL.tl (hS b ++ " " ++ (dg n ++ " " ++ "1"))
    have e2 : TL.tl (" 1" : Str) = [32, 49] := by decide +kernel
    simp only [TL.tl_append, tl_hS, tl_sp, tl_dg, tl_one, e2]; simp
  have hL := dg_len hn
  rw [e]
  refine bad_len (by simp) (by simp) (by simp) (fun w hw => ?_) (fun w hw => ?_) fun w hw => ?_ <;> simp only [List.mem_cons, List.not_mem_nil, or_false] at hw <;> rcases hw with rfl | rfl | rfl
  · exact (hS_free b).1
  · exact (dg_free n).1
  · rw [tl_one]; decide
  · exact (hS_free b).2.1
  · exact (dg_free n).2
  · rw [tl_one]; decide
  · rw [(hS_free b).2.2]; omega
  · rw [tl_dg]; omega
  · rw [tl_one]; decide
end
end
section
/-! ### texts of runs and back, errors -/
def pN (r : Rn) : Bool × Nat := (r.1, r.2.toNat)
def pT (r : Rn) : Str := rS (pN r)
/-- runs whose numbers are neither 0 nor very great -/
def Fin (rs : List Rn) : Prop := ∀ r ∈ rs, 0 < r.2 ∧ r.2 < 10 ^ 20
theorem Fin.n {rs : List Rn} (h : Fin rs) {r : Rn} (hr : r ∈ rs) : 0 < r.2.toNat ∧ r.2.toNat < 10 ^ 20 ∧ ((r.2.toNat : Nat) : Int) = r.2 := by
  have := h r hr
  have e : (10 : Int) ^ 20 = ((10 ^ 20 : Nat) : Int) := by decide
  rw [e] at this
  omega
theorem str_num {n : Nat} (h : n < 10 ^ 20) : strD [.int (n : Nat)] = some (.str (dg n)) := by
  have hl : (n : Int).natAbs.log2 < 1920 := by
    by_cases h0 : n = 0
    · subst h0; decide
    · have : n < 2 ^ 1920 := Nat.lt_of_lt_of_le h (by decide +kernel)
      exact (Nat.log2_lt (by simpa using h0)).2 (by simpa using this)
  show (if decide ((n : Int).natAbs.log2 < 1920) then some (D.str (Str.ofString (toString (n : Int)))) else none) = _
  rw [decide_eq_true hl, if_pos rfl]; rfl
theorem fitS {x y : Str} (h : (TL.tl x).length + (TL.tl y).length ≤ 1000) : addD (.str x) (.str y) = some (.str (x ++ y)) := by
  show (if fits (x.length + y.length) then _ else _) = _
  rw [fits_of (by rw [TL.len_tl, TL.len_tl]; omega), if_pos rfl]
theorem pT_adds {r : Rn} (h : 0 < r.2.toNat ∧ r.2.toNat < 10 ^ 20 ∧ ((r.2.toNat : Nat) : Int) = r.2) : addD (hD r.1) (.str " ") = some (.str (hS r.1 ++ " ")) ∧ strD [.int r.2] = some (.str (dg r.2.toNat)) ∧ addD (.str (hS r.1 ++ " ")) (.str (dg r.2.toNat)) = some (.str (pT r)) := by
  have hL := dg_len h.2.1
  refine ⟨fitS (by rw [tl_hS, tl_sp]; simp), by rw [← h.2.2]; exact str_num h.2.1, fitS (by rw [TL.tl_append, tl_hS, tl_sp, tl_dg]; simp; omega)⟩
def textR (rs : List Rn) : Str := if rs = [] then "-" else Txt.join "; " (rs.map pT)
/-! pieces joined and split -/
theorem semi_len : ("; " : Str).length ≤ 10 := by decide +kernel
theorem semi_tl : TL.tl ("; " : Str) = 59 :: [32] := by decide +kernel
theorem semi_k : (("; " : Str).cps.all (· < 256)) = true := by decide +kernel
theorem semi_d : Txt.split "-" "; " = [("-" : Str)] := by decide +kernel
theorem semi_room {ws : List Str} (few : ws.length ≤ 1000) (short : ∀ w ∈ ws, w.length ≤ 100) : (ws.map (·.length)).sum + ws.length * ("; " : Str).length ≤ 110000 := by
  have h1 := sum_len ws short
  have h2 : ws.length * ("; " : Str).length ≤ 1000 * 10 := Nat.mul_le_mul few semi_len
  omega
theorem semi_join {ws : List Str} (few : ws.length ≤ 1000) (short : ∀ w ∈ ws, w.length ≤ 100) : joinD "; " [.lst (ws.map D.str)] = some (.str (Txt.join "; " ws)) := by
  have := semi_room few short
  rw [joinD]
  simp only [D.items?, allOf_map_str]
  rw [decide_eq_true (by omega : (ws.map (·.length)).sum + ws.length * ("; " : Str).length ≤ 16777216), if_pos rfl]
theorem semi_fits {ws : List Str} (few : ws.length ≤ 1000) (short : ∀ w ∈ ws, w.length ≤ 100) : (Txt.join "; " ws).length ≤ 110000 := by
  have h1 := semi_room few short
  have h2 := StrLaws.join_length_le "; " ws
  rw [← TL.join_eq] at h2
  omega
theorem semi_back {ws : List Str} (hn : ws ≠ []) (free : ∀ w ∈ ws, 59 ∉ TL.tl w) : Txt.split (Txt.join "; " ws) "; " = ws := TL.split_join semi_tl semi_k hn free
theorem semi_split {ws : List Str} (few : ws.length ≤ 1000) (short : ∀ w ∈ ws, w.length ≤ 100) (hn : ws ≠ []) (free : ∀ w ∈ ws, 59 ∉ TL.tl w) : splitD (Txt.join "; " ws) [.str "; "] = some (.lst (ws.map D.str)) := by
  have h0 : (("; " : Str).length == 0) = false := by decide +kernel
  rw [Lq.splitD, semi_back hn free, h0, fits_of (by have := semi_fits few short; omega)]
  rfl
theorem semi_ne {ws : List Str} (hn : ws ≠ []) (free : ∀ w ∈ ws, 59 ∉ TL.tl w) (hd : ws ≠ [("-" : Str)]) : Txt.join "; " ws ≠ "-" := fun q => by
  have e := semi_back hn free
  rw [q, semi_d] at e
  exact hd e.symm
theorem pT_good {r : Rn} (h : 0 < r.2.toNat ∧ r.2.toNat < 10 ^ 20 ∧ ((r.2.toNat : Nat) : Int) = r.2) : 59 ∉ TL.tl (pT r) ∧ (pT r).length ≤ 100 ∧ pT r ≠ "-" := by
  have hL := dg_len h.2.1
  have t := tl_rS (pN r)
  change TL.tl (pT r) = hc r.1 :: 32 :: TL.numL r.2.toNat at t
  refine ⟨fun m => ?_, by rw [TL.len_tl, t]; simp only [List.length_cons]; omega, fun e => ?_⟩
  · rw [t] at m
    rcases List.mem_cons.1 m with q | q
    · revert q; unfold hc; split <;> omega
    · rcases List.mem_cons.1 q with q | q
      · omega
      · have := numL_lo q; omega
  · have : (TL.tl (pT r)).length = 1 := by rw [e]; decide +kernel
    rw [t] at this; simp at this
theorem ne_nilT (rs : List Rn) : neD (.tup (rs.map rD)) (.tup []) = some (.bl (!rs.isEmpty)) := by
  have h1 := fine_okQ (fine_rs 0 rs) (by decide)
  have h2 : okQ (.tup []) = true := fine_okQ (fine_rs 0 []) (by decide)
  cases rs with
  | nil => rfl
  | cons b v => rw [neD, h1, h2]; rfl
theorem eq_nilT (rs : List Rn) : eqD (.tup (rs.map rD)) (.tup []) = some (.bl rs.isEmpty) := by
  have h1 := fine_okQ (fine_rs 0 rs) (by decide)
  have h2 : okQ (.tup []) = true := fine_okQ (fine_rs 0 []) (by decide)
  cases rs with
  | nil => rfl
  | cons b v => rw [eqD, h1, h2]; rfl
/-! runs_from -/
def eTxt (j : Int) : Xn := ⟨1, [.int j]⟩
def rgF (x : D) (ps : List Rn) (c2 c3 c4 : Cell) : Rho := [.d x, .m (ps.map rD), c2, c3, c4]
/-- what stands ahead of the last one -/
theorem lastF {x : D} {ps : List Rn} {l : Rn} {c2 c3 c4 : Cell} (hl : ps.length ≤ 1000) : op2E atD (op2E atD (nameE 1) (op1E negD (constE (.int 1)))) (constE (.int 0)) (rgF x (ps ++ [l]) c2 c3 c4) = .ok (.d (hD l.1)) (rgF x (ps ++ [l]) c2 c3 c4) := by
  have a : atD (.lst ((ps ++ [l]).map rD)) (.int (-1)) = some (rD l) := by
    have e : (ps ++ [l]).map rD = ps.map rD ++ [rD l] := by rw [List.map_append]; rfl
    rw [e]; exact at_lastL _ _
  exact ev_op2 (ev_op2 (ev_nameM rfl) (ev_op1 ev_const rfl (rfl : negD (.int 1) = some (.int (-1)))) rfl rfl a) ev_const rfl rfl (tup_at0 _ _)
theorem lenF {x : D} {ps : List Rn} {c2 c3 c4 : Cell} : valT (op2E gtD (opNE lenD (consA (nameE 1) nilA)) (constE (.int 0))) (rgF x ps c2 c3 c4) = .ok (decide (0 < ps.length)) (rgF x ps c2 c3 c4) := by
  have l : lenD [.lst (ps.map rD)] = some (.int (ps.length : Nat)) := by rw [lenD, List.length_map]
  have g : gtD (.int (ps.length : Nat)) (.int 0) = some (.bl (decide (0 < ps.length))) := by
    show some (D.bl (decide ((ps.length : Int) > 0))) = _
    congr 2
    rw [Bool.eq_iff_iff, decide_eq_true_iff, decide_eq_true_iff]; omega
  exact ev_val (ev_op2 (ev_opN (ev_consA (ev_nameM rfl) ev_nilA) rfl l) ev_const rfl rfl g)
theorem step_good {x : D} {ps : List Rn} {r : Rn} {j : Int} {c2 c3 c4 : Cell} (hr : 0 < r.2.toNat ∧ r.2.toNat < 10 ^ 20 ∧ ((r.2.toNat : Nat) : Int) = r.2) (hl : ps.length ≤ 1000) (ha : ∀ qs l, ps = qs ++ [l] → l.1 ≠ r.1) :
    turnS m_runs_from_g1 m_runs_from_b1 (.tup [.int j, .str (pT r)]) (rgF x ps c2 c3 c4) = .nx (rgF x (ps ++ [r]) (.d (.int j)) (.d (.str (pT r))) (.d (rD r))) := by
  have ri := rin_ok (r := pN r) hr.1 hr.2.1
  have e : (D.tup [hD (pN r).1, .int ((pN r).2 : Nat)]) = rD r := by
    show D.tup [hD r.1, .int ((r.2.toNat : Nat) : Int)] = _
    rw [hr.2.2]; rfl
  rw [e] at ri
  refine ev_turn (ρ1 := rgF x ps (.d (.int j)) (.d (.str (pT r))) c4) rfl ?_
  unfold m_runs_from_b1
  refine ev_seqN (ρ2 := rgF x ps (.d (.int j)) (.d (.str (pT r))) (.d (rD r))) (ev_asg (ev_call (ev_consA (ev_name rfl) ev_nilA) rfl ri rfl)) rfl ?_
  have i0 : isD (rD r) .non = some (.bl false) := rfl
  have ap : ∀ c2 c3 : Cell, dropS (appE 1 (consA (nameE 4) nilA)) (rgF x ps c2 c3 (.d (rD r))) = .nx (rgF x (ps ++ [r]) c2 c3 (.d (rD r))) := fun c2 c3 => by
    refine Eq.trans (ev_drop (v := .d .non) (ev_app (xs0 := ps.map rD) (xs := ps.map rD) (y := rD r) (ρ1 := rgF x ps c2 c3 (.d (rD r))) rfl (ev_consA (ev_name rfl) ev_nilA) rfl (by rw [List.length_map]; omega) rfl)) ?_
    unfold rgF; rw [List.map_append]; rfl
  refine ev_seqN (ρ2 := rgF x ps (.d (.int j)) (.d (.str (pT r))) (.d (rD r))) (ev_ifS2 (b := false) (ev_or2 (b := false) (ev_val (ev_op2 (ev_name rfl) ev_const rfl rfl i0)) rfl ?_) rfl ev_next) rfl (ap _ _)
  rcases List.eq_nil_or_concat ps with rfl | ⟨qs, l, rfl⟩
  · exact ev_and1 (b := false) lenF rfl
  · rw [List.concat_eq_append] at *
    have hn := ha qs l rfl
    have la := lastF (x := x) (ps := qs) (l := l) (c2 := .d (.int j)) (c3 := .d (.str (pT r))) (c4 := .d (rD r)) (by rw [List.length_append] at hl; omega)
    have eq : eqD (hD r.1) (hD l.1) = some (.bl false) := by
      show some (D.bl (hS r.1 == hS l.1)) = _
      rw [hS_eq, decide_eq_false (Ne.symm hn)]
    exact ev_and2 (b := true) (by have := lenF (x := x) (ps := qs ++ [l]) (c2 := .d (.int j)) (c3 := .d (.str (pT r))) (c4 := .d (rD r)); rw [decide_eq_true (by simp)] at this; exact this) rfl (ev_val (ev_op2 (ev_op2 (ev_name rfl) ev_const rfl rfl (tup_at0 _ _)) la rfl rfl eq))
def enumF (k : Nat) (ws : List Str) : List D := ((ws.map D.str).zipIdx k).map fun p => D.tup [.int (p.2 : Nat), p.1]
theorem enumF_cons (k : Nat) (w : Str) (ws : List Str) : enumF k (w :: ws) = .tup [.int (k : Nat), .str w] :: enumF (k + 1) ws := by
  unfold enumF; rw [List.map_cons, List.zipIdx_cons, List.map_cons]
theorem alt_head2 {qs : List Rn} {l r : Rn} {rs : List Rn} (h : Alt (qs ++ l :: r :: rs)) : l.1 ≠ r.1 := by
  induction qs with
  | nil => exact h.2.1
  | cons q qs ih => exact ih h.tail
/-- the good pieces ahead -/
theorem from_loop {x : D} (rest : List Str) : ∀ (rs ps : List Rn) (c2 c3 c4 : Cell), Fin rs → Alt (ps ++ rs) → ps.length + rs.length ≤ 1000 → ∃ d2 d3 d4, loopS (turnS m_runs_from_g1 m_runs_from_b1) (enumF ps.length (rs.map pT ++ rest)) (rgF x ps c2 c3 c4) = loopS (turnS m_runs_from_g1 m_runs_from_b1) (enumF (ps ++ rs).length rest) (rgF x (ps ++ rs) d2 d3 d4)
  | [], ps, c2, c3, c4, _, _, _ => ⟨c2, c3, c4, by rw [List.append_nil]; rfl⟩
  | r :: rs, ps, c2, c3, c4, hf, ha, hl => by
    rw [List.length_cons] at hl
    have st := step_good (x := x) (ps := ps) (r := r) (j := (ps.length : Nat)) (c2 := c2) (c3 := c3) (c4 := c4) (hf.n List.mem_cons_self) (by omega) fun qs l e => by
      subst e
      rw [List.append_assoc] at ha
      exact alt_head2 ha
    obtain ⟨d2, d3, d4, e⟩ := from_loop (x := x) rest rs (ps ++ [r]) (.d (.int (ps.length : Nat))) (.d (.str (pT r))) (.d (rD r)) (fun q hq => hf q (List.mem_cons_of_mem _ hq)) (by rw [List.append_assoc]; exact ha) (by rw [List.length_append, List.length_singleton]; omega)
    refine ⟨d2, d3, d4, ?_⟩
    rw [List.map_cons, List.cons_append, enumF_cons, loopS, st]
    rw [List.length_append, List.length_singleton, List.append_assoc] at e
    exact e
end
section
/-! ### read from texts -/
theorem enumF_it (ws : List Str) : enumD (ws.map D.str) = enumF 0 ws := rfl
theorem from_iter {x : Str} {ws : List Str} {c2 c3 c4 : Cell} (e : (x = "-" ∧ ws = []) ∨ (x ≠ "-" ∧ splitD x [.str "; "] = some (.lst (ws.map D.str)))) :
    enumA (consA (ifE (valT (op2E neD (nameE 0) (constE (.str "-")))) (strM splitD (nameE 0) (consA (constE (.str "; ")) nilA)) (frzE (lstF nilA))) nilA) (rgF (.str x) [] c2 c3 c4) = .ok (enumF 0 ws) (rgF (.str x) [] c2 c3 c4) := by
  have key : ifE (valT (op2E neD (nameE 0) (constE (.str "-")))) (strM splitD (nameE 0) (consA (constE (.str "; ")) nilA)) (frzE (lstF nilA)) (rgF (.str x) [] c2 c3 c4) = .ok (.d (.lst (ws.map D.str))) (rgF (.str x) [] c2 c3 c4) := by
    rcases e with ⟨h, rfl⟩ | ⟨h, sp⟩
    · have ne : neD (.str x) (.str "-") = some (.bl false) := by rw [dv_neS, decide_eq_true h]; rfl
      exact ev_ifE2 (b := false) (ev_val (ev_op2 (ev_name rfl) ev_const rfl rfl ne)) rfl (ev_frz (ev_lst ev_nilA rfl (by simp)))
    · have ne : neD (.str x) (.str "-") = some (.bl true) := by rw [dv_neS, decide_eq_false h]; rfl
      exact ev_ifE1 (b := true) (ev_val (ev_op2 (ev_name rfl) ev_const rfl rfl ne)) rfl (ev_strM (ev_name rfl) (ev_consA ev_const ev_nilA) rfl sp)
  have ec := ev_consA (fs := nilA) key (ev_nilA (ρ := rgF (.str x) [] c2 c3 c4))
  rw [← enumF_it]
  generalize ws.map D.str = W at *
  simp only [enumA, ec, Lq.R.bind]
theorem runs_from_ok {rs : List Rn} (h : Fin rs) (ha : Alt rs) (hl : rs.length ≤ 1000) : f_runs_from [.str (textR rs)] = .ok (.tup (rs.map rD)) := by
  have hg : ∀ w ∈ rs.map pT, 59 ∉ TL.tl w ∧ w.length ≤ 100 ∧ w ≠ "-" := fun w hw => by
    obtain ⟨r, hr, rfl⟩ := List.mem_map.1 hw
    exact pT_good (h.n hr)
  have it := from_iter (x := textR rs) (ws := rs.map pT) (c2 := .no) (c3 := .no) (c4 := .no) (by
    unfold textR
    by_cases he : rs = []
    · rw [if_pos he, he]; exact .inl ⟨rfl, rfl⟩
    · rw [if_neg he]
      have hn : rs.map pT ≠ [] := by simpa using he
      exact .inr ⟨semi_ne hn (fun w hw => (hg w hw).1) fun e => (hg "-" (by rw [e]; exact List.mem_singleton.2 rfl)).2.2 rfl, semi_split (by rw [List.length_map]; exact hl) (fun w hw => (hg w hw).2.1) hn fun w hw => (hg w hw).1⟩)
  obtain ⟨d2, d3, d4, e⟩ := from_loop (x := .str (textR rs)) [] rs [] .no .no .no h ha (by simpa using hl)
  rw [List.append_nil, List.nil_append, List.length_nil] at e
  refine ev_runF [.d (.str (textR rs)), .no, .no, .no, .no] ⟨rgF (.str (textR rs)) rs d2 d3 d4, ?_⟩
  unfold m_runs_from
  refine ev_seqN (ρ2 := rgF (.str (textR rs)) [] .no .no .no) rfl rfl ?_
  refine ev_seqN (ρ2 := rgF (.str (textR rs)) rs d2 d3 d4) ?_ rfl (ev_ret (ev_opN (ev_consA (ev_nameM rfl) ev_nilA) rfl rfl))
  unfold m_runs_from_l1
  exact ev_for it e
end
section
/-! ### cut at "; " where a piece may end in a semicolon -/
def noS : List Nat → Bool
  | 59 :: 32 :: _ => false
  | _ :: r => noS r
  | [] => true
theorem noS_cons (c : Nat) (l : List Nat) (h : c ≠ 59) : noS (c :: l) = noS l := by
  rw [noS]
  exact fun r e _ => h e
theorem noS_free : ∀ {l : List Nat}, 59 ∉ l → noS l = true
  | [], _ => rfl
  | c :: l, h => by
    rw [noS_cons c l fun e => h (e ▸ List.mem_cons_self)]
    exact noS_free fun m => h (List.mem_cons_of_mem _ m)
theorem noS_semi : ∀ {l : List Nat}, 59 ∉ l → noS (l ++ [59]) = true
  | [], _ => rfl
  | c :: l, h => by
    rw [List.cons_append, noS_cons c _ fun e => h (e ▸ List.mem_cons_self)]
    exact noS_semi fun m => h (List.mem_cons_of_mem _ m)
theorem noS_tail {c : Nat} {l : List Nat} (h : noS (c :: l) = true) : noS l = true := by
  by_cases e : c = 59
  · subst e
    cases l with
    | nil => rfl
    | cons d r =>
      by_cases e2 : d = 32
      · subst e2; cases h
      · rw [noS] at h
        · exact h
        · intro r' _ e
          injection e with e4
          exact e2 e4
  · rwa [noS_cons c l e] at h
theorem noS_pre {c d : Nat} {l : List Nat} (h : noS (c :: d :: l) = true) : ¬ (c = 59 ∧ d = 32) := fun ⟨e1, e2⟩ => by
  subst e1; subst e2; cases h
theorem pre_two (c : Nat) (l : List Nat) (h : ∀ d r, l = d :: r → ¬ (c = 59 ∧ d = 32)) : TL.pre [59, 32] (c :: l) = false := by
  cases hp : TL.pre [59, 32] (c :: l) with
  | false => rfl
  | true =>
    cases l with
    | nil =>
      have e : ([c] : List Nat) = [59, 32] := beq_iff_eq.1 hp
      simp at e
    | cons d r =>
      have e : ([c, d] : List Nat) = [59, 32] := beq_iff_eq.1 hp
      injection e with e1 e2
      injection e2 with e2
      exact (h d r rfl ⟨e1, e2⟩).elim
theorem noS_at {rest : List Nat} : ∀ {p : List Nat}, noS p = true → ∀ i, i < p.length → TL.pre [59, 32] ((p ++ ([59, 32] ++ rest)).drop i) = false
  | [], _, i, hi => by cases hi
  | [c], h, 0, _ => pre_two c _ fun d r e => by
    injection e with e1
    rintro ⟨_, e2⟩
    omega
  | c :: d :: p, h, 0, _ => pre_two c _ fun d' r e => by
    injection e with e1
    rw [← e1]
    exact noS_pre h
  | c :: p, h, i + 1, hi => by
    rw [List.cons_append, List.drop_succ_cons]
    exact noS_at (noS_tail h) i (by simpa using hi)
theorem noS_end : ∀ {p : List Nat}, noS p = true → ∀ i, i < p.length → TL.pre [59, 32] (p.drop i) = false
  | [], _, i, hi => by cases hi
  | [c], h, 0, _ => pre_two c _ fun d r e => by cases e
  | c :: d :: p, h, 0, _ => pre_two c _ fun d' r e => by
    injection e with e1
    rw [← e1]
    exact noS_pre h
  | c :: p, h, i + 1, hi => by
    rw [List.drop_succ_cons]
    exact noS_end (noS_tail h) i (by simpa using hi)
theorem spl_joinS : ∀ {parts : List (List Nat)}, parts ≠ [] → (∀ p ∈ parts, noS p = true) → TL.spl [59, 32] 0 [] (TL.joinL [59, 32] parts) = parts
  | [], h, _ => absurd rfl h
  | [p], _, hp => by
    show TL.spl [59, 32] 0 [] p = [p]
    rw [TL.spl_last (noS_end (hp p (List.mem_singleton.mpr rfl))), List.nil_append]
  | p :: q :: r, _, hp => by
    show TL.spl [59, 32] 0 [] (p ++ ([59, 32] ++ TL.joinL [59, 32] (q :: r))) = p :: q :: r
    rw [TL.spl_part (by simp) (noS_at (hp p List.mem_cons_self)), List.nil_append, spl_joinS (by simp) fun z hz => hp z (List.mem_cons_of_mem _ hz)]
theorem semi_backS {ws : List Str} (hn : ws ≠ []) (free : ∀ w ∈ ws, noS (TL.tl w) = true) : Txt.split (Txt.join "; " ws) "; " = ws := by
  refine TL.map_tl_inj ?_
  rw [TL.split_spl _ _ (by rw [semi_tl]; simp) (TL.kind_ok semi_k), TL.join_eq, TL.tl_join, semi_tl]
  refine spl_joinS (fun e => hn (List.map_eq_nil_iff.mp e)) fun p h => ?_
  obtain ⟨z, hz, rfl⟩ := List.mem_map.mp h
  exact free z hz
theorem semi_splitS {ws : List Str} (few : ws.length ≤ 1000) (short : ∀ w ∈ ws, w.length ≤ 100) (hn : ws ≠ []) (free : ∀ w ∈ ws, noS (TL.tl w) = true) : splitD (Txt.join "; " ws) [.str "; "] = some (.lst (ws.map D.str)) := by
  have h0 : (("; " : Str).length == 0) = false := by decide +kernel
  rw [Lq.splitD, semi_backS hn free, h0, fits_of (by have := semi_fits few short; omega)]
  rfl
/-- a piece that is bent, none of which is "-" -/
structure BadQ (x : Str) : Prop where
  free : noS (TL.tl x) = true
  len : x.length ≤ 100
  bad : f_run_in [.str x] = .ok .non
  ne : x ≠ "-"
theorem BadP.q {x : Str} (h : BadP x) (hn : x ≠ "-") : BadQ x := ⟨noS_free h.free, h.len, h.bad, hn⟩
theorem step_badQ {x : D} {p : Str} {ps : List Rn} {j : Int} {c2 c3 c4 : Cell} (hb : BadQ p) : turnS m_runs_from_g1 m_runs_from_b1 (.tup [.int j, .str p]) (rgF x ps c2 c3 c4) = .err (eTxt j) (rgF x ps (.d (.int j)) (.d (.str p)) (.d .non)) := by
  refine ev_turn (ρ1 := rgF x ps (.d (.int j)) (.d (.str p)) c4) rfl ?_
  unfold m_runs_from_b1
  refine ev_seqN (ρ2 := rgF x ps (.d (.int j)) (.d (.str p)) (.d .non)) (ev_asg (ev_call (ev_consA (ev_name rfl) ev_nilA) rfl hb.bad rfl)) rfl ?_
  exact ev_seqX (ev_ifS1 (b := true) (ev_or1 (b := true) (ev_val (ev_op2 (ev_name rfl) ev_const rfl rfl (rfl : isD .non .non = some (.bl true)))) rfl) rfl (ev_raise rfl))
theorem runs_from_badQ {rs : List Rn} {p : Str} {rest : List Str} (h : Fin rs) (ha : Alt rs) (hl : rs.length + rest.length ≤ 900) (hb : BadQ p) (hr : ∀ w ∈ rest, 59 ∉ TL.tl w ∧ w.length ≤ 100) :
    f_runs_from [.str (Txt.join "; " (rs.map pT ++ p :: rest))] = .err (eTxt (rs.length : Nat)) := by
  have hg : ∀ w ∈ rs.map pT ++ p :: rest, noS (TL.tl w) = true ∧ w.length ≤ 100 := fun w hw => by
    rcases List.mem_append.1 hw with hw | hw
    · obtain ⟨r, hr, rfl⟩ := List.mem_map.1 hw
      exact ⟨noS_free (pT_good (h.n hr)).1, (pT_good (h.n hr)).2.1⟩
    · rcases List.mem_cons.1 hw with rfl | hw
      · exact ⟨hb.free, hb.len⟩
      · exact ⟨noS_free (hr w hw).1, (hr w hw).2⟩
  have hn1 : rs.map pT ++ p :: rest ≠ [] := by simp
  have it := from_iter (x := Txt.join "; " (rs.map pT ++ p :: rest)) (ws := rs.map pT ++ p :: rest) (c2 := .no) (c3 := .no) (c4 := .no) (.inr ⟨fun q => by
    have e := semi_backS hn1 fun w hw => (hg w hw).1
    rw [q, semi_d] at e
    have m : p ∈ rs.map pT ++ p :: rest := List.mem_append_right _ List.mem_cons_self
    rw [← e, List.mem_singleton] at m
    exact hb.ne m, semi_splitS (by simp; omega) (fun w hw => (hg w hw).2) hn1 fun w hw => (hg w hw).1⟩)
  generalize Txt.join "; " (rs.map pT ++ p :: rest) = x at *
  obtain ⟨d2, d3, d4, e⟩ := from_loop (x := .str x) (p :: rest) rs [] .no .no .no h ha (by simp; omega)
  rw [List.nil_append, List.length_nil, enumF_cons, loopS, step_badQ hb] at e
  refine ev_runFx [.d (.str x), .no, .no, .no, .no] ⟨rgF (.str x) rs (.d (.int (rs.length : Nat))) (.d (.str p)) (.d .non), ?_⟩
  unfold m_runs_from
  refine ev_seqN (ρ2 := rgF (.str x) [] .no .no .no) rfl rfl ?_
  refine ev_seqX ?_
  unfold m_runs_from_l1
  exact ev_for it e
/-! #### the pieces of this law -/
section
variable {b : Bool} {n : Nat}
theorem ne_dash {x : Str} {c : Nat} {r : List Nat} (h : TL.tl x = c :: r) (hc : c ≠ 45) : x ≠ "-" := fun e => by
  have : TL.tl ("-" : Str) = [45] := by decide +kernel
  rw [e, this] at h
  injection h with h
  exact hc h.symm
theorem hc_ne (b : Bool) : hc b ≠ 45 := by cases b <;> decide
theorem tl_run (z : Str) : TL.tl (rS (b, n) ++ z) = hc b :: 32 :: (TL.numL n ++ TL.tl z) := by rw [TL.tl_append, tl_rS]; rfl
variable (h0 : 0 < n) (hn : n < 10 ^ 20)
include h0 hn
/-- a sign behind the number -/
theorem bad_end {z : Str} {c : Nat} (hz : TL.tl z = [c]) (h1 : c < 48 ∨ 57 < c ∧ c < 128) (h2 : c ≠ 32) : (noS (TL.tl (rS (b, n) ++ z)) = true) ∧ (rS (b, n) ++ z).length ≤ 100 ∧ f_run_in [.str (rS (b, n) ++ z)] = .ok .non ∧ rS (b, n) ++ z ≠ "-" := by
  have e : rS (b, n) ++ z = Str.join " " [hS b, dg n ++ z] := by
    apply TL.ext_tl
    rw [TL.tl_append, tl_rS]
    show _ = TL.tl (hS b ++ " " ++ (dg n ++ z))
    simp only [TL.tl_append, tl_hS, tl_sp, tl_dg]; simp
  have hL := dg_len hn
  have t : TL.tl (dg n ++ z) = TL.numL n ++ [c] := by rw [TL.tl_append, hz, tl_dg]
  have m : ∀ x ∈ TL.numL n ++ [c], (48 ≤ x ∧ x ≤ 57) ∨ x = c := fun x hx => by
    rcases List.mem_append.1 hx with q | q
    · exact .inl (numL_lo q)
    · exact .inr (List.mem_singleton.1 q)
  have f32 : 32 ∉ TL.tl (dg n ++ z) := by rw [t]; intro q; have := m _ q; omega
  have ln : (rS (b, n) ++ z).length ≤ 100 := by rw [TL.len_tl, tl_run, hz]; simp; omega
  refine ⟨?_, ln, ?_, ne_dash (tl_run z) (hc_ne b)⟩
  · rw [tl_run, hz, noS_cons _ _ (by cases b <;> decide), noS_cons _ _ (by decide)]
    have f59 : 59 ∉ TL.numL n := fun q => by have := numL_lo q; omega
    by_cases hc : c = 59
    · subst hc; exact noS_semi f59
    · refine noS_free fun q => ?_
      rcases List.mem_append.1 q with q | q
      · exact f59 q
      · exact hc (List.mem_singleton.1 q).symm
  · rw [e]
    refine rin_num (d := .non) f32 (by rw [← e]; omega) (num_bad ?_ ?_ ?_ ?_) (.inl rfl)
    · intro q
      have : TL.tl (dg n ++ z) = [] := by rw [q]; exact tl_nil
      rw [t] at this; simp at this
    · rw [t]; intro x hx; have := m x hx; omega
    · rw [TL.len_tl, t, List.length_append]; simp; omega
    · rw [t]; unfold digB
      rw [List.all_append, Bool.and_eq_false_iff]
      right
      show (Nat.ble 48 c && Nat.ble c 57 && true) = false
      cases q : Nat.ble 48 c with
      | false => rfl
      | true =>
        cases q2 : Nat.ble c 57 with
        | false => rfl
        | true => rw [Nat.ble_eq] at q q2; omega
/-- one word -/
theorem bad_one {z : Str} {l : List Nat} (hz : TL.tl z = l) (h1 : 32 ∉ l) (h2 : 59 ∉ l) (h3 : l.length ≤ 1) : BadQ (hS b ++ z ++ dg n) := by
  have hL := dg_len hn
  have t : TL.tl (hS b ++ z ++ dg n) = hc b :: (l ++ TL.numL n) := by rw [TL.tl_append, TL.tl_append, tl_hS, tl_dg, hz]; rfl
  have f : ∀ x ∈ hc b :: (l ++ TL.numL n), x ≠ 32 ∧ x ≠ 59 := fun x hx => by
    rcases List.mem_cons.1 hx with rfl | hx
    · cases b <;> decide
    · rcases List.mem_append.1 hx with q | q
      · exact ⟨fun e => h1 (e ▸ q), fun e => h2 (e ▸ q)⟩
      · have := numL_lo q; omega
  refine BadP.q (bad_len (ws := [hS b ++ z ++ dg n]) (by simp) (by simp) (by simp) (fun w hw => ?_) (fun w hw => ?_) fun w hw => ?_) (ne_dash t (hc_ne b))
  · rw [List.mem_singleton.1 hw, t]; exact fun q => (f _ q).1 rfl
  · rw [List.mem_singleton.1 hw, t]; exact fun q => (f _ q).2 rfl
  · rw [List.mem_singleton.1 hw, t, List.length_cons, List.length_append]; omega
/-- a sign ahead of the heir -/
theorem bad_ahead {z : Str} {c : Nat} (hz : TL.tl z = [c]) (h1 : c ≠ 32) (h2 : c ≠ 59) (h3 : c ≠ 45) : BadQ (z ++ rS (b, n)) := by
  have e : z ++ rS (b, n) = Str.join " " [z ++ hS b, dg n] := by
    apply TL.ext_tl
    rw [TL.tl_append, tl_rS]
    show _ = TL.tl (z ++ hS b ++ " " ++ dg n)
    simp only [TL.tl_append, tl_hS, tl_sp, tl_dg]; simp
  have hL := dg_len hn
  have t : TL.tl (z ++ hS b) = [c, hc b] := by rw [TL.tl_append, hz, tl_hS]; rfl
  have t2 : TL.tl (z ++ rS (b, n)) = c :: hc b :: 32 :: TL.numL n := by rw [TL.tl_append, hz, tl_rS]; rfl
  have hb1 : hc b ≠ 32 ∧ hc b ≠ 59 := by cases b <;> decide
  refine BadP.q ?_ (ne_dash t2 h3)
  rw [e]
  refine bad_heir ?_ (dg_free n).1 ?_ (dg_free n).2 (by rw [t]; simp) (by rw [tl_dg]; omega) fun q => ?_
  · rw [t]; simp; exact ⟨fun e => h1 e.symm, fun e => hb1.1 e.symm⟩
  · rw [t]; simp; exact ⟨fun e => h2 e.symm, fun e => hb1.2 e.symm⟩
  · have : (TL.tl (z ++ hS b)).length = 1 := by
      simp only [List.mem_cons, List.not_mem_nil, or_false] at q
      rcases q with q | q <;> rw [q] <;> decide +kernel
    rw [t] at this
    simp at this
end
end
section
/-! ### a piece is bent -/
theorem take_natB {k : Nat} {ns : List Int} {n : Nat} (hb : Bx k ns) (h1 : 0 < n) (h2 : n < 1000000000) (hk : k < 1000000000) : ∃ (r : Nat) (ns' : List Int), f_law_take ns [.int n] = some (.int r, ns') ∧ r < n ∧ Bx (k + 1) ns' := by
  obtain ⟨r, ns', e, g1, g2, g3⟩ := take_ok hb (n := n) (by omega) (by omega) (by omega)
  obtain ⟨q, rfl⟩ : ∃ q : Nat, r = q := ⟨r.toNat, by omega⟩
  exact ⟨q, ns', e, by omega, g3⟩
theorem ev_replOf {y x z : Str} {zs : List Str} {F : List Int → List D → Option (D × List Int)} {fo : Rho → R VD} {ρ ρ1 : Rho} {ns ns' : List Int} {r : Nat} (h1 : fo ρ = .ok (.d (.str x)) ρ1) (h2 : ρ1[0]? = some (.b ns)) (h3 : onlyB 0 ρ1 = true) (h4 : F ns [.int (zs.length : Nat)] = some (.int (r : Nat), ns')) (hr : r < 1000000) (h5 : zs[r]? = some z) (h6 : (y == z) = false) (h7 : x.length + (x.length + 1) * z.length ≤ 16777216) :
    replOfE y zs F fo ρ = .ok (.d (.str (Txt.replace x y z))) (ρ1.set 0 (.b ns')) := by
  have e1 : (decide ((0 : Int) ≤ (r : Nat)) && decide (((r : Nat) : Int) < 1000000)) = true := by
    rw [Bool.and_eq_true, decide_eq_true_iff, decide_eq_true_iff]
    omega
  have e2 : (!(y == z) && Nat.ble (x.length + (x.length + 1) * z.length) 16777216) = true := by
    rw [h6, Nat.ble_eq_true_of_le h7]
    rfl
  simp only [replOfE, h1, Lq.R.bind, h2, h3, if_true, h4, e1, Int.toNat_natCast, h5, e2]
abbrev GoodR (r : Rn) : Prop := 0 < r.2.toNat ∧ r.2.toNat < 10 ^ 20 ∧ ((r.2.toNat : Nat) : Int) = r.2
theorem repl_room {x z : Str} (hx : x.length ≤ 100) (hz : z.length ≤ 10) : x.length + (x.length + 1) * z.length ≤ 16777216 := by
  have : (x.length + 1) * z.length ≤ 101 * 10 := Nat.mul_le_mul (by omega) hz
  omega
section
variable {r : Rn}
def cst : List Str := ["", "none", "c 1", "a 0", "5 b", "5"]
theorem cst_bad : ∀ z ∈ cst, BadQ z := fun z hz => by
  simp only [cst, List.mem_cons, List.not_mem_nil, or_false] at hz
  rcases hz with rfl | rfl | rfl | rfl | rfl | rfl <;> exact ⟨by decide +kernel, by decide +kernel, resIs_of (by decide +kernel), by decide +kernel⟩
def tails : List Str := ["x", ";", " 1", " ", ","]
theorem tail_bad (g : GoodR r) : ∀ z ∈ tails, BadQ (pT r ++ z) := fun z hz => by
  obtain ⟨h0, hn, _⟩ := g
  have dsh : ∀ z : Str, pT r ++ z ≠ "-" := fun z => ne_dash (tl_run z) (hc_ne _)
  simp only [tails, List.mem_cons, List.not_mem_nil, or_false] at hz
  rcases hz with rfl | rfl | rfl | rfl | rfl
  · exact BadP.q (bad5 h0 hn) (dsh _)
  · obtain ⟨a, b, c, d⟩ := bad_end (b := r.1) h0 hn (z := ";") (c := 59) (by decide +kernel) (by omega) (by omega)
    exact ⟨a, b, c, d⟩
  · exact BadP.q (bad11 h0 hn) (dsh _)
  · exact BadP.q (bad1 h0 hn) (dsh _)
  · obtain ⟨a, b, c, d⟩ := bad_end (b := r.1) h0 hn (z := ",") (c := 44) (by decide +kernel) (by omega) (by omega)
    exact ⟨a, b, c, d⟩
def mids : List Str := ["  ", "", "_", " 0"]
theorem tl_mid (b : Bool) (z : Str) (n : Nat) : TL.tl (hS b ++ z ++ dg n) = hc b :: (TL.tl z ++ TL.numL n) := by rw [TL.tl_append, TL.tl_append, tl_hS, tl_dg]; rfl
theorem mid_bad (g : GoodR r) : ∀ z ∈ mids, BadQ (Txt.replace (pT r) " " z) := fun z hz => by
  obtain ⟨h0, hn, _⟩ := g
  have e : ∀ z : Str, Txt.replace (pT r) " " z = hS r.1 ++ z ++ dg r.2.toNat := fun z => repl_two
  have dsh : ∀ z : Str, Txt.replace (pT r) " " z ≠ "-" := fun z => by rw [e z]; exact ne_dash (tl_mid _ z _) (hc_ne _)
  simp only [mids, List.mem_cons, List.not_mem_nil, or_false] at hz
  rcases hz with rfl | rfl | rfl | rfl
  · exact BadP.q (bad3 h0 hn) (dsh _)
  · rw [e]; exact bad_one h0 hn (z := "") (l := []) tl_nil (by simp) (by simp) (by simp)
  · rw [e]; exact bad_one h0 hn (z := "_") (l := [95]) (by decide +kernel) (by simp) (by simp) (by simp)
  · exact BadP.q (bad4 h0 hn) (dsh _)
def heads : List Str := [" ", "+", "A", "b"]
theorem head_bad (g : GoodR r) : ∀ z ∈ heads, BadQ (z ++ pT r) := fun z hz => by
  obtain ⟨h0, hn, _⟩ := g
  simp only [heads, List.mem_cons, List.not_mem_nil, or_false] at hz
  rcases hz with rfl | rfl | rfl | rfl
  · exact BadP.q (bad2 h0 hn) (ne_dash (c := 32) (r := TL.tl (pT r)) (by rw [TL.tl_append, tl_sp]; rfl) (by omega))
  · exact bad_ahead h0 hn (z := "+") (c := 43) (by decide +kernel) (by omega) (by omega) (by omega)
  · exact bad_ahead h0 hn (z := "A") (c := 65) (by decide +kernel) (by omega) (by omega) (by omega)
  · exact bad_ahead h0 hn (z := "b") (c := 98) (by decide +kernel) (by omega) (by omega) (by omega)
theorem bent_ok {k : Nat} {ns : List Int} (g : GoodR r) (hb : Bx k ns) (hk : k < 100000000) : ∃ p ns', f_law_bent ns [.str (pT r)] = some (.str p, ns') ∧ BadQ p ∧ Bx (k + 2) ns' := by
  obtain ⟨w, ns1, e1, hw, hb1⟩ := take_natB (n := 4) hb (by omega) (by omega) (by omega)
  have gl := pT_good g
  have eqw : ∀ j : Int, eqD (.int (w : Nat)) (.int j) = some (.bl (decide (((w : Nat) : Int) = j))) := fun j => by
    show some (D.bl (deq (.int (w : Nat)) (.int j))) = _
    congr 2
  have s0 : ∀ {h : Rho → Lq.O} {o : Lq.O}, h [.b ns1, .d (.str (pT r)), .d (.int (w : Nat))] = o → seqS (asgS 2 (callBE f_law_take (consA (nameE 0) (consA (constE (.int 4)) nilA)))) h [.b ns, .d (.str (pT r)), .no] = o := fun {h o} q =>
    ev_seqN (ρ2 := [.b ns1, .d (.str (pT r)), .d (.int (w : Nat))]) (ev_asg (ρ1 := [.b ns1, .d (.str (pT r)), .no]) (ev_callB (ev_consA (ev_nameB rfl) (ev_consA ev_const ev_nilA)) rfl rfl e1 rfl rfl)) rfl q
  have te : ∀ (j : Int), valT (op2E eqD (nameE 2) (constE (.int j))) [.b ns1, .d (.str (pT r)), .d (.int (w : Nat))] = .ok (decide (((w : Nat) : Int) = j)) [.b ns1, .d (.str (pT r)), .d (.int (w : Nat))] := fun j => ev_val (ev_op2 (ev_name rfl) ev_const rfl rfl (eqw j))
  have skip : ∀ {j : Int} {f g : Rho → Lq.O} {o : Lq.O}, decide (((w : Nat) : Int) = j) = false → g [.b ns1, .d (.str (pT r)), .d (.int (w : Nat))] = o → seqS (ifS (valT (op2E eqD (nameE 2) (constE (.int j)))) f nextS) g [.b ns1, .d (.str (pT r)), .d (.int (w : Nat))] = o := fun {j f g o} h q =>
    ev_seqN (ev_ifS2 (te j) h ev_next) rfl q
  have take : ∀ {j : Int} {f : Rho → R VD} {g : Rho → Lq.O} {v : VD} {ρ1 : Rho}, decide (((w : Nat) : Int) = j) = true → f [.b ns1, .d (.str (pT r)), .d (.int (w : Nat))] = .ok v ρ1 → seqS (ifS (valT (op2E eqD (nameE 2) (constE (.int j)))) (retS f) nextS) g [.b ns1, .d (.str (pT r)), .d (.int (w : Nat))] = .rt v ρ1 := fun {j f g v ρ1} h q =>
    ev_seqR (ev_ifS1 (te j) h (ev_ret q))
  have cs : w = 0 ∨ w = 1 ∨ w = 2 ∨ w = 3 := by omega
  rcases cs with rfl | rfl | rfl | rfl
  · obtain ⟨x, ns2, e2, hx, hb2⟩ := of_ok (xs := tails.map D.str) hb1 (by decide) (by decide) (by omega)
    obtain ⟨z, hz, rfl⟩ := List.mem_map.1 hx
    have bd := tail_bad g z hz
    have ad : addD (.str (pT r)) (.str z) = some (.str (pT r ++ z)) := fitS (by
      have := gl.2.1
      rw [TL.len_tl] at this
      have : (TL.tl z).length ≤ 10 := by
        simp only [tails, List.mem_cons, List.not_mem_nil, or_false] at hz
        rcases hz with rfl | rfl | rfl | rfl | rfl <;> decide +kernel
      omega)
    refine ⟨pT r ++ z, ns2, ?_, bd, hb2⟩
    refine ev_runB [.b ns, .d (.str (pT r)), .no] ⟨[.b ns2, .d (.str (pT r)), .d (.int (0 : Nat))], ?_, rfl⟩
    unfold m_law_bent
    refine s0 (take (by decide) ?_)
    exact ev_op2 (ev_name rfl) (ev_callB (ev_consA (ev_nameB rfl) (ev_consA (ev_frz (ev_lst (ev_consA ev_const (ev_consA ev_const (ev_consA ev_const (ev_consA ev_const (ev_consA ev_const ev_nilA))))) rfl (by simp))) ev_nilA)) rfl rfl e2 rfl rfl) rfl rfl ad
  · obtain ⟨q, ns2, e2, hq, hb2⟩ := take_natB (n := 4) hb1 (by omega) (by omega) (by omega)
    have hz : mids[q]? = some mids[q] := List.getElem?_eq_getElem (by simpa [mids] using hq)
    have mz : mids[q]'(by simpa [mids] using hq) ∈ mids := List.getElem_mem _
    generalize mids[q]'(by simpa [mids] using hq) = z at hz mz
    have bd := mid_bad g z mz
    have nz : ((" " : Str) == z) = false ∧ z.length ≤ 10 := by
      simp only [mids, List.mem_cons, List.not_mem_nil, or_false] at mz
      rcases mz with rfl | rfl | rfl | rfl <;> exact ⟨by decide +kernel, by decide +kernel⟩
    refine ⟨Txt.replace (pT r) " " z, ns2, ?_, bd, hb2⟩
    refine ev_runB [.b ns, .d (.str (pT r)), .no] ⟨[.b ns2, .d (.str (pT r)), .d (.int (1 : Nat))], ?_, rfl⟩
    unfold m_law_bent
    refine s0 (skip (by decide) (take (by decide) ?_))
    exact ev_replOf (ρ1 := [.b ns1, .d (.str (pT r)), .d (.int (1 : Nat))]) (ns := ns1) (r := q) (ev_name rfl) rfl rfl e2 (by omega) hz nz.1 (repl_room gl.2.1 nz.2)
  · obtain ⟨x, ns2, e2, hx, hb2⟩ := of_ok (xs := cst.map D.str) hb1 (by decide) (by decide) (by omega)
    obtain ⟨z, hz, rfl⟩ := List.mem_map.1 hx
    refine ⟨z, ns2, ?_, cst_bad z hz, hb2⟩
    refine ev_runB [.b ns, .d (.str (pT r)), .no] ⟨[.b ns2, .d (.str (pT r)), .d (.int (2 : Nat))], ?_, rfl⟩
    unfold m_law_bent
    refine s0 (skip (by decide) (skip (by decide) (take (by decide) ?_)))
    exact ev_callB (ev_consA (ev_nameB rfl) (ev_consA (ev_frz (ev_lst (ev_consA ev_const (ev_consA ev_const (ev_consA ev_const (ev_consA ev_const (ev_consA ev_const (ev_consA ev_const ev_nilA)))))) rfl (by simp))) ev_nilA)) rfl rfl e2 rfl rfl
  · obtain ⟨x, ns2, e2, hx, hb2⟩ := of_ok (xs := heads.map D.str) hb1 (by decide) (by decide) (by omega)
    obtain ⟨z, hz, rfl⟩ := List.mem_map.1 hx
    have bd := head_bad g z hz
    have ad : addD (.str z) (.str (pT r)) = some (.str (z ++ pT r)) := fitS (by
      have := gl.2.1
      rw [TL.len_tl] at this
      have : (TL.tl z).length ≤ 10 := by
        simp only [heads, List.mem_cons, List.not_mem_nil, or_false] at hz
        rcases hz with rfl | rfl | rfl | rfl <;> decide +kernel
      omega)
    refine ⟨z ++ pT r, ns2, ?_, bd, hb2⟩
    refine ev_runB [.b ns, .d (.str (pT r)), .no] ⟨[.b ns2, .d (.str (pT r)), .d (.int (3 : Nat))], ?_, rfl⟩
    unfold m_law_bent
    refine s0 (skip (by decide) (skip (by decide) (skip (by decide) ?_)))
    exact ev_ret (ev_op2 (ev_callB (ev_consA (ev_nameB rfl) (ev_consA (ev_frz (ev_lst (ev_consA ev_const (ev_consA ev_const (ev_consA ev_const (ev_consA ev_const ev_nilA)))) rfl (by simp))) ev_nilA)) rfl rfl e2 rfl rfl) (ev_name rfl) rfl rfl ad)
end
end
section
/-! ### drawn runs, their text, what is heard -/
theorem p19 : powD (.int 10) (.int 19) = some (.int 10000000000000000000) := by kernel_rfl
theorem alt_left2 : ∀ {a b : List Rn}, Alt (a ++ b) → Alt a
  | [], _, _ => trivial
  | [r], [], h => h
  | [r], s :: b, h => h.1
  | r :: s :: a, b, h => ⟨h.1, h.2.1, alt_left2 (a := s :: a) h.2.2⟩
theorem alt_add {rs : List Rn} {r : Rn} (h : Alt rs) (hr : 0 < r.2) (hn : ∀ qs l, rs = qs ++ [l] → l.1 ≠ r.1) : Alt (rs ++ [r]) := by
  rcases snoc_cases rs with rfl | ⟨qs, l, rfl⟩
  · exact hr
  · rw [List.append_assoc]
    exact alt_snoc (hn qs l rfl) hr h
theorem bits_ok {k : Nat} {ns : List Int} (hb : Bx k ns) (hk : k < 1000000) : ∃ (rs : List Rn) (ns' : List Int), f_law_bits ns [.int 6] = some (.tup (rs.map rD), ns') ∧ rs.length ≤ 6 ∧ Fin rs ∧ Alt rs ∧ Bx (k + 20) ns' := by
  obtain ⟨x0, ns1, e0, hx0, hb1⟩ := of_ok (xs := [.str "a", .str "b"]) hb (by simp) (by simp) (by omega)
  obtain ⟨b0, rfl⟩ := of_ab hx0
  obtain ⟨t, ns2, e1, g1, hb2⟩ := take_natB hb1 (n := 7) (by omega) (by omega) (by omega)
  obtain ⟨ρ', el, hi⟩ := loop_inv (body := turnS (nameG 4) m_law_bits_b1) (fun j ρ => j ≤ t → ∃ (ns : List Int) (rs : List Rn) (b : Bool) (cc : Cell), ρ = [.b ns, .d (.int 6), .m (rs.map rD), .d (hD b), cc] ∧ isB cc = false ∧ rs.length = j ∧ Fin rs ∧ Alt rs ∧ (∀ qs l, rs = qs ++ [l] → l.1 ≠ b) ∧ Bx (k + 2 + 2 * j) ns) (rng 0 t) 0
    [.b ns2, .d (.int 6), .m [], .d (hD b0), .no] (fun _ => ⟨ns2, [], b0, .no, rfl, rfl, rfl, fun _ h => (List.not_mem_nil h).elim, trivial, fun qs l h => by simp at h, hb2.mono (by omega)⟩) (fun j d ρ hj hi => by
      obtain ⟨hj1, rfl⟩ := rng_at hj
      obtain ⟨ns3, rs, b, cc, rfl, hcc, hl, hF, hA, hn, hb3⟩ := hi (by omega)
      obtain ⟨q, ns4, e4, hq, hb4⟩ := take_natB hb3 (n := 9) (by omega) (by omega) (by omega)
      obtain ⟨x, ns5, e5, hx, hb5⟩ := of_ok (xs := [.int 1, .int 1, .int 2, .int 3, .int 10, .int (10000000000000000000 + (q : Nat))]) hb4 (by simp) (by simp) (by omega)
      obtain ⟨v, rfl, v0, v1⟩ : ∃ v : Int, x = .int v ∧ 0 < v ∧ v < 10 ^ 20 := by
        simp only [List.mem_cons, List.not_mem_nil, or_false] at hx
        rcases hx with rfl | rfl | rfl | rfl | rfl | rfl
        all_goals exact ⟨_, rfl, by omega, by show _ < (100000000000000000000 : Int); omega⟩
      have ad : addD (.int 10000000000000000000) (.int (q : Nat)) = some (.int (10000000000000000000 + (q : Nat))) := rfl
      have fl : (ifE (valT (op2E eqD (nameE 3) (constE (.str "a")))) (constE (.str "b")) (constE (.str "a"))) [.b ns5, .d (.int 6), .m ((rs ++ [(b, v)]).map rD), .d (hD b), .d (.int (0 + (j : Nat)))] = .ok (.d (hD (!b))) [.b ns5, .d (.int 6), .m ((rs ++ [(b, v)]).map rD), .d (hD b), .d (.int (0 + (j : Nat)))] := by
        cases b
        · exact ev_ifE2 (b := false) (ev_val (ev_op2 (ev_name rfl) ev_const rfl rfl rfl)) rfl ev_const
        · exact ev_ifE1 (b := true) (ev_val (ev_op2 (ev_name rfl) ev_const rfl rfl rfl)) rfl ev_const
      have lx : frzE (lstF (consA (constE (.int 1)) (consA (constE (.int 1)) (consA (constE (.int 2)) (consA (constE (.int 3)) (consA (constE (.int 10)) (consA (op2E addD (op2E powD (constE (.int 10)) (constE (.int 19))) (callBE f_law_take (consA (nameE 0) (consA (constE (.int 9)) nilA)))) nilA))))))) [.b ns3, .d (.int 6), .m (rs.map rD), .d (hD b), .d (.int (0 + (j : Nat)))] = .ok (.d (.lst [.int 1, .int 1, .int 2, .int 3, .int 10, .int (10000000000000000000 + (q : Nat))])) [.b ns4, .d (.int 6), .m (rs.map rD), .d (hD b), .d (.int (0 + (j : Nat)))] :=
        ev_frz (ev_lst (vs := [.d (.int 1), .d (.int 1), .d (.int 2), .d (.int 3), .d (.int 10), .d (.int (10000000000000000000 + (q : Nat)))]) (ev_consA ev_const (ev_consA ev_const (ev_consA ev_const (ev_consA ev_const (ev_consA ev_const (ev_consA (ev_op2 (ev_op2 ev_const ev_const rfl rfl p19) (ev_callB (ev_consA (ev_nameB rfl) (ev_consA ev_const ev_nilA)) rfl rfl e4 rfl rfl) rfl rfl ad) ev_nilA)))))) rfl (by simp))
      refine ⟨[.b ns5, .d (.int 6), .m ((rs ++ [(b, v)]).map rD), .d (hD (!b)), .d (.int (0 + (j : Nat)))], ?_, fun _ => ⟨ns5, rs ++ [(b, v)], !b, _, rfl, rfl, by rw [List.length_append, List.length_singleton]; omega, fun r hr => ?_, alt_add hA v0 hn, fun qs l h => ?_, by rw [show k + 2 + 2 * (0 + j + 1) = k + 2 + 2 * (0 + j) + 1 + 1 by omega]; exact hb5⟩⟩
      · refine ev_turn (ρ1 := [.b ns3, .d (.int 6), .m (rs.map rD), .d (hD b), .d (.int (0 + (j : Nat)))]) rfl ?_
        unfold m_law_bits_b1
        refine ev_seqN (ρ2 := [.b ns5, .d (.int 6), .m ((rs ++ [(b, v)]).map rD), .d (hD b), .d (.int (0 + (j : Nat)))]) (ev_drop (ev_app (xs0 := rs.map rD) (xs := rs.map rD) (ρ1 := [.b ns5, .d (.int 6), .m (rs.map rD), .d (hD b), .d (.int (0 + (j : Nat)))]) (y := rD (b, v)) rfl ?_ rfl (by rw [List.length_map]; omega) (by rw [List.map_append]; rfl))) rfl (Eq.trans (ev_asg fl) rfl)
        exact ev_consA (ev_tup (vs := [.d (hD b), .d (.int v)]) (ev_consA (ev_name rfl) (ev_consA (ev_callB (ρ1 := [.b ns4, .d (.int 6), .m (rs.map rD), .d (hD b), .d (.int (0 + (j : Nat)))]) (ev_consA (ev_nameB rfl) (ev_consA lx ev_nilA)) rfl rfl e5 rfl rfl) ev_nilA)) rfl (by simp)) ev_nilA
      · rcases List.mem_append.1 hr with hr | hr
        · exact hF r hr
        · rw [List.mem_singleton.1 hr]; exact ⟨v0, v1⟩
      · obtain ⟨_, h2⟩ := List.append_inj' h rfl
        injection h2 with h2
        rw [← h2]
        show b ≠ !b
        cases b <;> simp)
  rw [rng_len, Nat.zero_add] at hi
  obtain ⟨ns3, rs, b, cc, rfl, hcc, hl, hF, hA, hn, hb3⟩ := hi (Nat.le_refl _)
  refine ⟨rs, ns3, ?_, by omega, hF, hA, hb3.mono (by omega)⟩
  have eo : okR ((t : Nat) : Int) = true := okR_small (by omega) (by omega)
  have ad : addD (.int 6) (.int 1) = some (.int (7 : Nat)) := rfl
  have rr : rngI1 (consA (callBE f_law_take (consA (nameE 0) (consA (op2E addD (nameE 1) (constE (.int 1))) nilA))) nilA) [.b ns1, .d (.int 6), .m [], .d (hD b0), .no] = .ok (rng 0 t) [.b ns2, .d (.int 6), .m [], .d (hD b0), .no] :=
    ev_rng1 (ev_consA (ev_callB (ev_consA (ev_nameB rfl) (ev_consA (ev_op2 (ev_name rfl) ev_const rfl rfl ad) ev_nilA)) rfl rfl e1 rfl rfl) ev_nilA) (by omega)
  have tt : tupleTD [.lst (rs.map rD)] = some (.tup (rs.map rD)) := rfl
  generalize rs.map rD = RD at *
  refine ev_runB [.b ns, .d (.int 6), .no, .no, .no] ⟨[.b ns3, .d (.int 6), .m RD, .d (hD b), cc], ?_, rfl⟩
  unfold m_law_bits
  refine ev_seqN (ρ2 := [.b ns1, .d (.int 6), .m [], .d (hD b0), .no]) (Eq.trans (ev_par (ms := [.f [], .d (hD b0)]) (ρ1 := [.b ns1, .d (.int 6), .no, .no, .no]) (ev_consMf (ev_lst ev_nilA rfl (by simp)) (ev_consMd (ev_callB (ev_consA (ev_nameB rfl) (ev_consA (ev_frz (ev_lst (ev_consA ev_const (ev_consA ev_const ev_nilA)) rfl (by simp))) ev_nilA)) rfl rfl e0 rfl rfl) ev_nilM)) rfl) rfl) rfl ?_
  refine ev_seqN (ρ2 := [.b ns3, .d (.int 6), .m RD, .d (hD b), cc]) ?_ rfl (ev_ret (ev_opN (ev_consA (ev_nameM rfl) ev_nilA) rfl tt))
  unfold m_law_bits_l1
  exact ev_for rr el
theorem words_ok {rs : List Rn} (h : Fin rs) (hl : rs.length ≤ 1000) : f_law_bit_words [.tup (rs.map rD)] = .ok (.str (textR rs)) := by
  have ne := ne_nilT rs
  have c1 : m_law_bit_words_c1 [.d (.tup (rs.map rD)), .no] = .ok ((rs.map pT).map D.str) [.d (.tup (rs.map rD)), .no] := by
    rw [List.map_map]
    refine comp_m (vs := [1]) (gd := nameG 1) (fe := m_law_bit_words_e1) (ρ0 := [.d (.tup (rs.map rD)), .no]) (l := rs) (e := rD) (g := fun r => D.str (pT r)) (ev_seqI (x := .tup (rs.map rD)) (ev_name rfl) rfl) rfl (by omega) (fun r hr => ⟨[.d (.tup (rs.map rD)), .d (rD r)], rfl, ?_, rfl⟩)
    obtain ⟨a, s, a2⟩ := pT_adds (h.n hr)
    unfold m_law_bit_words_e1
    exact ev_op2 (ev_op2 (ev_op2 (ev_name rfl) ev_const rfl rfl (tup_at0 _ _)) ev_const rfl rfl a) (ev_opN (ev_consA (ev_op2 (ev_name rfl) ev_const rfl rfl (tup_at1 _ _)) ev_nilA) rfl s) rfl rfl a2
  refine ev_runF [.d (.tup (rs.map rD)), .no] ⟨[.d (.tup (rs.map rD)), .no], ?_⟩
  unfold m_law_bit_words textR
  by_cases he : rs = []
  · rw [if_pos he]
    rw [he] at ne ⊢
    exact ev_ret (ev_ifE2 (b := false) (ev_val (ev_op2 (ev_name rfl) (ev_tup ev_nilA rfl (by simp)) rfl rfl ne)) rfl ev_const)
  · rw [if_neg he]
    rw [show rs.isEmpty = false from by simpa using he] at ne
    have jn := semi_join (ws := rs.map pT) (by rw [List.length_map]; exact hl) fun w hw => by
      obtain ⟨r, hr, rfl⟩ := List.mem_map.1 hw
      exact (pT_good (h.n hr)).2.1
    exact ev_ret (ev_ifE1 (b := true) (ev_val (ev_op2 (ev_name rfl) (ev_tup ev_nilA rfl (by simp)) rfl rfl ne)) rfl (ev_strM ev_const (ev_consA (ev_frz c1) ev_nilA) rfl jn))
theorem heard_ok {rs : List Rn} (h : Fin rs) (ha : Alt rs) (hl : rs.length ≤ 1000) : f_law_heard [.str (textR rs)] = .ok (.tup (rs.map rD)) := by
  have e := runs_from_ok h ha hl
  generalize D.tup (rs.map rD) = R at *
  generalize textR rs = x at *
  refine ev_runF [.d (.str x), .no, .no, .no] ⟨[.d (.str x), .d .non, .d R, .no], ?_⟩
  unfold m_law_heard
  refine ev_seqN (ρ1 := [.d (.str x), .d .non, .d .non, .no]) rfl rfl ?_
  refine ev_seqN (ρ1 := [.d (.str x), .d .non, .d R, .no]) (ev_try (ev_asg (ev_call (ev_consA (ev_name rfl) ev_nilA) rfl e rfl))) rfl ?_
  exact ev_ret (ev_ifE1 (b := true) (ev_val (ev_op2 (ev_name rfl) ev_const rfl rfl (rfl : isD .non .non = some (.bl true)))) rfl (ev_name rfl))
theorem heard_err {x : Str} {j : Int} (h : f_runs_from [.str x] = .err (eTxt j)) : f_law_heard [.str x] = .ok (.lst [.int j]) := by
  refine ev_runF [.d (.str x), .no, .no, .no] ?_
  apply Exists.intro
  unfold m_law_heard
  refine ev_seqN (ρ1 := [.d (.str x), .d .non, .d .non, .no]) rfl rfl ?_
  refine ev_seqN (ρ1 := [.d (.str x), .d (.obj 1 [.int j]), .d .non, .no]) (ev_tryX (e := eTxt j) (ρ1 := [.d (.str x), .d .non, .d .non, .no]) (ev_asgX (ev_callX (e := eTxt j) (ds := [.str x]) rfl rfl h rfl)) rfl) rfl ?_
  rfl
end
section
theorem cells_ok {ns : List Int} (h : ns.length ≤ 63) : ∃ ms : List Int, f_law_cells [.scr ns, .int 3] = .ok (.lst (ms.map D.int)) ∧ 1 ≤ ms.length ∧ ms.length ≤ 3 := by
  have e1 : cutL (ns.map D.int) none (some 3) = (ns.take 3).map D.int := by rw [show (3 : Int) = ((3 : Nat) : Int) from rfl, cutL_to, List.map_take]
  have e2 : cutL (ns.map D.int) (some 3) (some 63) = (ns.drop 3).map D.int := by rw [show (3 : Int) = ((3 : Nat) : Int) from rfl, show (63 : Int) = ((63 : Nat) : Int) from rfl, cutL_ft, List.take_of_length_le (by rw [List.length_map]; exact h), List.map_drop]
  by_cases h0 : ns = []
  · subst h0
    exact ⟨[0], by rfl, by decide, by decide⟩
  · by_cases hl : ns.length ≤ 3
    · rw [List.drop_eq_nil_of_le hl, List.map_nil] at e2
      rw [List.take_of_length_le hl] at e1
      refine ⟨ns, ?_, List.length_pos_iff.2 h0, hl⟩
      have e6 : loopS (turnS m_law_cells_g1 m_law_cells_b1) [] [.d (.scr ns), .d (.int 3), .m (ns.map D.int), .no, .no, .no] = .nx _ := rfl
      simp [f_law_cells, m_law_cells, m_law_cells_l1, Lq.runF, Lq.runB, Lq.runL, Lq.boxAt, Lq.startR, Lq.seqS, Lq.nextS, Lq.ifS, Lq.asgS, Lq.asgM, Lq.asgG, Lq.retS, Lq.retF, Lq.dropS, Lq.forS, Lq.putItem, Lq.isMB, Lq.putS1, Lq.parS, Lq.consMd, Lq.consMf', Lq.noErr, Lq.nilM, Lq.setsR, Lq.nameE, Lq.constE, Lq.op1E, Lq.op2E, Lq.opNE, Lq.opNF, Lq.op2F, Lq.lift1, Lq.lift2, Lq.liftN, Lq.res, Lq.resAll, Lq.valT, Lq.notT, Lq.andT, Lq.orT, Lq.andE, Lq.orE, Lq.notE, Lq.ifE, Lq.consA, Lq.nilA, Lq.frzE, Lq.lstF, Lq.tupE, Lq.callE, Lq.callBE, Lq.callL, Lq.callNew, Lq.slotted, Lq.datAll, Lq.appE, Lq.popE, Lq.compF, Lq.yesT, Lq.wipeR, Lq.backR, Lq.plainC, Lq.nameG, Lq.tupG, Lq.consG, Lq.nilG, Lq.seqI, Lq.rngI1, Lq.rngI2, Lq.enumI, Lq.zipI, Lq.isiE, Lq.slE, Lq.aPart, Lq.noPart, Lq.chainE, Lq.strM, Lq.orF, Lq.R.bind, Lq.R.thnO, Lq.raiseS, Lq.raise0S, Lq.tryS, Lq.hNil, Lq.hAs, Lq.goneS, Lq.enumA, Lq.enumK, Lq.ifF, Lq.permA, Lq.permL, Lq.D.noL, Lq.noLs, Lq.isEx, Lq.fldD, Lq.isErrD, Lq.itemsOf, Lq.onlyB, Lq.isB, Lq.D.flat, Lq.starA, Lq.extE, Lq.augS, Lq.ixTE, Lq.mvS, Lq.dfA, Lq.slotD, Lq.propD, Lq.mkE, Lq.mkE0, Lq.callNewN, Lq.isErrND, Lq.callME, Lq.isBD, Lq.addD, Lq.catF, Lq.subD, Lq.mulD, Lq.fdivD, Lq.modD, Lq.powD, Lq.negD, Lq.ltD, Lq.leD, Lq.gtD, Lq.geD, Lq.eqD, Lq.neD, Lq.sameKind, Lq.isD, Lq.isntD, Lq.isNon, Lq.inD, Lq.ninD, Lq.anyEq, Lq.lenD, Lq.atD, Lq.cutD, Lq.revD, Lq.splitD, Lq.joinD, Lq.tupleD, Lq.tupleTD, Lq.listF, Lq.allD, Lq.anyD, Lq.sumD, Lq.absD, Lq.min2D, Lq.max2D, Lq.intD, Lq.strD, Lq.sortedF, Lq.isiB, Lq.tyName, Lq.notObj, Lq.D.items?, Lq.fits, L2.atI, L2.ixN, e1, e2, enumD, e6, h0]
    · obtain ⟨ms', c3, c4, c5, hm, e⟩ := cells_loop (ns := ns) (ns.drop 3) 0 (ns.take 3) .no .no .no (by rw [List.length_take]; omega) (by rw [List.length_drop]; omega)
      refine ⟨ms', ?_, by omega, by omega⟩
      simp only [List.map_drop, List.map_take] at e e1 e2
      simp [f_law_cells, m_law_cells, m_law_cells_l1, Lq.runF, Lq.runB, Lq.runL, Lq.boxAt, Lq.startR, Lq.seqS, Lq.nextS, Lq.ifS, Lq.asgS, Lq.asgM, Lq.asgG, Lq.retS, Lq.retF, Lq.dropS, Lq.forS, Lq.putItem, Lq.isMB, Lq.putS1, Lq.parS, Lq.consMd, Lq.consMf', Lq.noErr, Lq.nilM, Lq.setsR, Lq.nameE, Lq.constE, Lq.op1E, Lq.op2E, Lq.opNE, Lq.opNF, Lq.op2F, Lq.lift1, Lq.lift2, Lq.liftN, Lq.res, Lq.resAll, Lq.valT, Lq.notT, Lq.andT, Lq.orT, Lq.andE, Lq.orE, Lq.notE, Lq.ifE, Lq.consA, Lq.nilA, Lq.frzE, Lq.lstF, Lq.tupE, Lq.callE, Lq.callBE, Lq.callL, Lq.callNew, Lq.slotted, Lq.datAll, Lq.appE, Lq.popE, Lq.compF, Lq.yesT, Lq.wipeR, Lq.backR, Lq.plainC, Lq.nameG, Lq.tupG, Lq.consG, Lq.nilG, Lq.seqI, Lq.rngI1, Lq.rngI2, Lq.enumI, Lq.zipI, Lq.isiE, Lq.slE, Lq.aPart, Lq.noPart, Lq.chainE, Lq.strM, Lq.orF, Lq.R.bind, Lq.R.thnO, Lq.raiseS, Lq.raise0S, Lq.tryS, Lq.hNil, Lq.hAs, Lq.goneS, Lq.enumA, Lq.enumK, Lq.ifF, Lq.permA, Lq.permL, Lq.D.noL, Lq.noLs, Lq.isEx, Lq.fldD, Lq.isErrD, Lq.itemsOf, Lq.onlyB, Lq.isB, Lq.D.flat, Lq.starA, Lq.extE, Lq.augS, Lq.ixTE, Lq.mvS, Lq.dfA, Lq.slotD, Lq.propD, Lq.mkE, Lq.mkE0, Lq.callNewN, Lq.isErrND, Lq.callME, Lq.isBD, Lq.addD, Lq.catF, Lq.subD, Lq.mulD, Lq.fdivD, Lq.modD, Lq.powD, Lq.negD, Lq.ltD, Lq.leD, Lq.gtD, Lq.geD, Lq.eqD, Lq.neD, Lq.sameKind, Lq.isD, Lq.isntD, Lq.isNon, Lq.inD, Lq.ninD, Lq.anyEq, Lq.lenD, Lq.atD, Lq.cutD, Lq.revD, Lq.splitD, Lq.joinD, Lq.tupleD, Lq.tupleTD, Lq.listF, Lq.allD, Lq.anyD, Lq.sumD, Lq.absD, Lq.min2D, Lq.max2D, Lq.intD, Lq.strD, Lq.sortedF, Lq.isiB, Lq.tyName, Lq.notObj, Lq.D.items?, Lq.fits, L2.atI, L2.ixN, e1, e2, enumD, h0, e]
def frameR (ns ms : List Int) : Rho := [.d (.scr ns), .d (.lst (ms.map D.int)), .no]
theorem frame_turn (hr : ∀ ns, Bx 0 ns → ∃ ns', f_law_right ns [] = some (.bl true, ns')) {ns ms : List Int} {k : Nat} {acc : List D} (hk : k < ms.length) (e3 : ms.length ≤ 3) (hf : fits (acc.length + 1) = true) :
    ∃ ρ1, Lq.compTurn (nameG 2) yesT m_law_e1 acc (.int k) (frameR ns ms) = .ok (acc ++ [.bl true]) ρ1 ∧ wipeR ρ1 [2] = frameR ns ms := by
  obtain ⟨b0, b1, eb, hb⟩ := box_ok hk e3
  obtain ⟨ns', er⟩ := hr _ hb
  refine ⟨[.d (.scr ns), .d (.lst (ms.map D.int)), .d (.int k)], ?_, by simp [wipeR, frameR]⟩
  simp [Lq.runF, Lq.runB, Lq.runL, Lq.boxAt, Lq.startR, Lq.seqS, Lq.nextS, Lq.ifS, Lq.asgS, Lq.asgM, Lq.asgG, Lq.retS, Lq.retF, Lq.dropS, Lq.forS, Lq.loopS, Lq.turnS, Lq.putItem, Lq.isMB, Lq.putS1, Lq.parS, Lq.consMd, Lq.consMf', Lq.noErr, Lq.nilM, Lq.setsR, Lq.nameE, Lq.constE, Lq.op1E, Lq.op2E, Lq.opNE, Lq.opNF, Lq.op2F, Lq.lift1, Lq.lift2, Lq.liftN, Lq.res, Lq.resAll, Lq.valT, Lq.notT, Lq.andT, Lq.orT, Lq.andE, Lq.orE, Lq.notE, Lq.ifE, Lq.consA, Lq.nilA, Lq.frzE, Lq.lstF, Lq.tupE, Lq.callE, Lq.callBE, Lq.callL, Lq.callNew, Lq.slotted, Lq.datAll, Lq.appE, Lq.popE, Lq.compF, Lq.compLoop, Lq.compTurn, Lq.yesT, Lq.wipeR, Lq.backR, Lq.plainC, Lq.nameG, Lq.tupG, Lq.consG, Lq.nilG, Lq.seqI, Lq.rngI1, Lq.rngI2, Lq.enumI, Lq.zipI, Lq.isiE, Lq.slE, Lq.aPart, Lq.noPart, Lq.chainE, Lq.strM, Lq.orF, Lq.R.bind, Lq.R.thnO, Lq.raiseS, Lq.raise0S, Lq.tryS, Lq.hNil, Lq.hAs, Lq.goneS, Lq.enumA, Lq.enumK, Lq.ifF, Lq.permA, Lq.permL, Lq.D.noL, Lq.noLs, Lq.isEx, Lq.fldD, Lq.isErrD, Lq.itemsOf, Lq.onlyB, Lq.isB, Lq.D.flat, Lq.starA, Lq.extE, Lq.augS, Lq.ixTE, Lq.mvS, Lq.dfA, Lq.slotD, Lq.propD, Lq.mkE, Lq.mkE0, Lq.callNewN, Lq.isErrND, Lq.callME, frameR, m_law_e1, eb, er, allOf, D.int?, hf]
theorem frame_all (hr : ∀ ns, Bx 0 ns → ∃ ns', f_law_right ns [] = some (.bl true, ns')) {ns ms : List Int} (e3 : ms.length ≤ 3) :
    Lq.compLoop [2] (nameG 2) yesT m_law_e1 [] (rng 0 ms.length) (frameR ns ms) = .ok (List.replicate ms.length (.bl true)) (frameR ns ms) := by
  have hl : (rng 0 ms.length).length = ms.length := by unfold rng; rw [List.length_map, List.length_range]
  obtain ⟨ρ', ec, hi⟩ := comp_inv (vs := [2]) (gd := nameG 2) (ft := yesT) (fe := m_law_e1) (fun _ ρ => ρ = frameR ns ms) (D.bl true) 3 (rng 0 ms.length) [] 0 (frameR ns ms) rfl (fun d hd k ρ acc hi _ hf => by
    subst hi
    obtain ⟨k, hk, rfl⟩ := rng_mem hd
    exact frame_turn hr hk e3 hf) (by rw [hl, List.length_nil]; omega) (by rw [hl]; omega)
  rw [List.nil_append, rng_true, hi] at ec
  exact ec
theorem frame_rng {ns ms : List Int} (e3 : ms.length ≤ 3) : rngI1 (consA (opNE lenD (consA (nameE 1) nilA)) nilA) (frameR ns ms) = .ok (rng 0 ms.length) (frameR ns ms) := by
  have er : okR (ms.length : Int) = true := okR_small (by omega) (by omega)
  simp [frameR, Lq.rngI1, Lq.consA, Lq.nilA, Lq.opNE, Lq.nameE, Lq.R.bind, Lq.liftN, Lq.resAll, Lq.res, Lq.lenD, er]
theorem frame_comp (hr : ∀ ns, Bx 0 ns → ∃ ns', f_law_right ns [] = some (.bl true, ns')) {ns ms : List Int} (e3 : ms.length ≤ 3) :
    Lq.compF [2] (rngI1 (consA (opNE lenD (consA (nameE 1) nilA)) nilA)) (nameG 2) yesT m_law_e1 (frameR ns ms) = .ok (List.replicate ms.length (.bl true)) (frameR ns ms) := by
  have ew : wipeR (frameR ns ms) [2] = frameR ns ms := rfl
  have ep : ([2] : List Nat).all (fun v => plainC ((frameR ns ms).getD v .no)) = true := rfl
  have eb : backR (frameR ns ms) (frameR ns ms) [2] = frameR ns ms := rfl
  simp only [Lq.compF, frame_rng e3, Lq.R.bind, ep, ew, frame_all hr e3, eb, if_true]
theorem frame (hr : ∀ ns, Bx 0 ns → ∃ ns', f_law_right ns [] = some (.bl true, ns')) {ns : List Int} (h : ns.length ≤ 63) : f_law [.scr ns] = .ok (.bl true) := by
  obtain ⟨ms, e1, e2, e3⟩ := cells_ok h
  have e5 := frame_comp hr (ns := ns) e3
  have ea := all_true ms.length
  unfold frameR at e5
  simp [f_law, m_law, m_law_c1, e1, Lq.slotted, e5, ea, Lq.runF, Lq.startR, Lq.seqS, Lq.asgS, Lq.callE, Lq.consA, Lq.nilA, Lq.nameE, Lq.constE, Lq.R.bind, Lq.R.thnO, Lq.retS, Lq.opNE, Lq.frzE, Lq.liftN, Lq.resAll, Lq.res]
end
section
/-! ### one case, all rounds -/
theorem ev_strMF {g : Str → List D → Option (List D)} {fo : Rho → R VD} {fs : Rho → R (List VD)} {ρ ρ1 ρ2 : Rho} {s : Str} {vs : List VD} {xs d : List D} (h1 : fo ρ = .ok (.d (.str s)) ρ1) (h2 : fs ρ1 = .ok vs ρ2) (h3 : resAll vs ρ2 = some xs) (h4 : g s xs = some d) : strMF g fo fs ρ = .ok d ρ2 := by simp only [strMF, h1, h2, Lq.R.bind, h3, h4]
theorem case_ok {k : Nat} {ns : List Int} (hb : Bx k ns) (hk : k < 100000) : ∃ ns', f_law_case_right ns [] = some (.bl true, ns') ∧ Bx (k + 30) ns' := by
  obtain ⟨rs, ns1, e1, hl, hF, hA, hb1⟩ := bits_ok hb (by omega)
  have en := eq_nilT rs
  have wd := words_ok hF (by omega)
  have he := heard_ok hF hA (by omega)
  have gR := good_rs 4 (rs := rs) (by omega)
  by_cases hn : rs = []
  · subst hn
    have h0 : f_law_heard [.str "-"] = .ok (.tup []) := he
    have sm : f_law_same 8 [.tup [], .tup []] = .ok (.bl true) := same_ok 8 _ rfl
    have en : eqD (.tup []) (.tup []) = some (.bl true) := en
    change f_law_bits ns [.int 6] = some (.tup [], ns1) at e1
    refine ⟨ns1, ?_, hb1.mono (by omega)⟩
    refine ev_runB [.b ns, .no, .no, .no] ⟨[.b ns1, .d (.tup []), .no, .no], ?_, rfl⟩
    unfold m_law_case_right
    refine ev_seqN (ρ2 := [.b ns1, .d (.tup []), .no, .no]) (ev_asg (ρ1 := [.b ns1, .no, .no, .no]) (ev_callB (ev_consA (ev_nameB rfl) (ev_consA ev_const ev_nilA)) rfl rfl e1 rfl rfl)) rfl ?_
    exact ev_seqR (ev_ifS1 (b := true) (ev_val (ev_op2 (ev_name rfl) (ev_tup ev_nilA rfl (by simp)) rfl rfl en)) rfl (ev_ret (ev_call (ev_consA (ev_call (ev_consA ev_const ev_nilA) rfl h0 rfl) (ev_consA (ev_tup ev_nilA rfl (by simp)) ev_nilA)) rfl sm rfl)))
  · obtain ⟨j, ns2, ek, hj, hb2⟩ := take_natB hb1 (n := rs.length) (List.length_pos_iff.2 hn) (by omega) (by omega)
    have hFr := hF.n (List.getElem_mem hj)
    obtain ⟨p, ns3, eb, bp, hb3⟩ := bent_ok hFr hb2 (by omega)
    have hR2 : rs = rs.take j ++ rs[j] :: rs.drop (j + 1) := by rw [List.getElem_cons_drop, List.take_append_drop]
    have hal : Alt (rs.take j) := alt_left2 (b := rs[j] :: rs.drop (j + 1)) (by rw [← hR2]; exact hA)
    have hfl : Fin (rs.take j) := fun r hr => hF r (List.mem_of_mem_take hr)
    have hlt : (rs.take j).length = j := by rw [List.length_take]; omega
    have pg : ∀ w ∈ (rs.drop (j + 1)).map pT, 59 ∉ TL.tl w ∧ w.length ≤ 100 := fun w hw => by
      obtain ⟨r, hr, rfl⟩ := List.mem_map.1 hw
      have := pT_good (hF.n (List.mem_of_mem_drop hr))
      exact ⟨this.1, this.2.1⟩
    have pa : ∀ w ∈ rs.map pT, 59 ∉ TL.tl w ∧ w.length ≤ 100 := fun w hw => by
      obtain ⟨r, hr, rfl⟩ := List.mem_map.1 hw
      have := pT_good (hF.n hr)
      exact ⟨this.1, this.2.1⟩
    have hh := heard_err (runs_from_badQ (rs := rs.take j) (p := p) (rest := (rs.drop (j + 1)).map pT) hfl hal (by rw [hlt, List.length_map, List.length_drop]; omega) bp pg)
    rw [hlt] at hh
    have se : (rs.map pT).set j p = (rs.take j).map pT ++ p :: (rs.drop (j + 1)).map pT := by
      rw [List.set_eq_take_append_cons_drop, if_pos (by rw [List.length_map]; exact hj), List.map_take, List.map_drop]
    rw [← se] at hh
    have jn := semi_join (ws := (rs.map pT).set j p) (by simp; omega) fun w hw => by
      rcases List.mem_or_eq_of_mem_set hw with q | rfl
      · exact (pa w q).2
      · exact bp.len
    have tR : textR rs = Txt.join "; " (rs.map pT) := by unfold textR; rw [if_neg hn]
    have h0 : (("; " : Str).length == 0) = false := by decide +kernel
    have sp : splitF (textR rs) [.str "; "] = some ((rs.map pT).map D.str) := by
      have hn1 : rs.map pT ≠ [] := by simpa using hn
      rw [tR, Lq.splitF, semi_back hn1 (fun w hw => (pa w hw).1), h0, fits_of (by have := semi_fits (ws := rs.map pT) (by rw [List.length_map]; omega) (fun w hw => (pa w hw).2); omega)]
      rfl
    have en : eqD (.tup (rs.map rD)) (.tup []) = some (.bl false) := by rw [en]; congr 2; simpa using hn
    have ln : lenD [.lst ((rs.map pT).map D.str)] = some (.int (rs.length : Nat)) := by rw [lenD, List.length_map, List.length_map]
    have at_ : atD (.lst ((rs.map pT).map D.str)) (.int (j : Nat)) = some (.str (pT rs[j])) := atL_of (i := j) (by rw [List.getElem?_map, List.getElem?_map, List.getElem?_eq_getElem hj]; rfl) (by omega)
    have ix : L2.ixN ((rs.map pT).map D.str).length (j : Nat) = some j := by
      rw [List.length_map, List.length_map]
      unfold L2.ixN
      simp; omega
    have sm := same_ok 8 (.lst [.lst [.int (j : Nat)], .tup (rs.map rD)]) (good_lst (by simp) fun x hx => by
      simp only [List.mem_cons, List.not_mem_nil, or_false] at hx
      rcases hx with rfl | rfl
      · rfl
      · exact gR)
    have stm : ((rs.map pT).map D.str).set j (.str p) = ((rs.map pT).set j p).map D.str := by rw [List.map_set]
    refine ⟨ns3, ?_, hb3.mono (by omega)⟩
    generalize hZ : ((rs.map pT).set j p).map D.str = Z at *
    generalize Txt.join "; " ((rs.map pT).set j p) = jt at *
    generalize textR rs = t at *
    generalize hX : (rs.map pT).map D.str = XS at *
    generalize D.tup (rs.map rD) = R at *
    refine ev_runB [.b ns, .no, .no, .no] ⟨[.b ns3, .d R, .m Z, .d (.int (j : Nat))], ?_, rfl⟩
    unfold m_law_case_right
    refine ev_seqN (ρ2 := [.b ns1, .d R, .no, .no]) (ev_asg (ρ1 := [.b ns1, .no, .no, .no]) (ev_callB (ev_consA (ev_nameB rfl) (ev_consA ev_const ev_nilA)) rfl rfl e1 rfl rfl)) rfl ?_
    refine ev_seqN (ρ2 := [.b ns1, .d R, .no, .no]) (ev_ifS2 (b := false) (ev_val (ev_op2 (ev_name rfl) (ev_tup ev_nilA rfl (by simp)) rfl rfl en)) rfl ev_next) rfl ?_
    refine ev_seqN (ρ2 := [.b ns1, .d R, .m XS, .no]) (Eq.trans (ev_asgM (ev_strMF (ev_call (ev_consA (ev_name rfl) ev_nilA) rfl wd rfl) (ev_consA ev_const ev_nilA) rfl sp)) rfl) rfl ?_
    refine ev_seqN (ρ2 := [.b ns2, .d R, .m XS, .d (.int (j : Nat))]) (ev_asg (ρ1 := [.b ns2, .d R, .m XS, .no]) (ev_callB (ev_consA (ev_nameB rfl) (ev_consA (ev_opN (ev_consA (ev_nameM rfl) ev_nilA) rfl ln) ev_nilA)) rfl rfl ek rfl rfl)) rfl ?_
    refine ev_seqN (ρ2 := [.b ns3, .d R, .m Z, .d (.int (j : Nat))]) (Eq.trans (ev_put (ρ1 := [.b ns3, .d R, .m XS, .d (.int (j : Nat))]) (ev_callB (ev_consA (ev_nameB rfl) (ev_consA (ev_op2 (ev_nameM rfl) (ev_name rfl) rfl rfl at_) ev_nilA)) rfl rfl eb rfl rfl) rfl (ev_name rfl) rfl ix) (by rw [stm]; rfl)) rfl ?_
    exact ev_ret (ev_call (ev_consA (ev_frz (ev_lst (ev_consA (ev_call (ev_consA (ev_strM ev_const (ev_consA (ev_nameM rfl) ev_nilA) rfl jn) ev_nilA) rfl hh rfl) (ev_consA (ev_call (ev_consA (ev_call (ev_consA (ev_name rfl) ev_nilA) rfl wd rfl) ev_nilA) rfl he rfl) ev_nilA)) rfl (by simp))) (ev_consA (ev_frz (ev_lst (ev_consA (ev_frz (ev_lst (ev_consA (ev_name rfl) ev_nilA) rfl (by simp))) (ev_consA (ev_name rfl) ev_nilA)) rfl (by simp))) ev_nilA)) rfl sm rfl)
theorem hand_ok : f_law_by_hand_right [] = .ok (.bl true) := by
  rw [f_law_by_hand_right_eq]
  exact isT_of (by decide +kernel)
theorem right_ok {ns : List Int} (hb : Bx 0 ns) : ∃ ns', f_law_right ns [] = some (.bl true, ns') := by
  have hr : rngI1 (consA (constE (.int 6)) nilA) [.b ns, .no] = .ok (rng 0 6) [.b ns, .no] := rfl
  obtain ⟨ρ', e, ns', rfl, _⟩ := compF_inv (vs := [1]) (fi := rngI1 (consA (constE (.int 6)) nilA)) (gd := nameG 1) (fe := m_law_right_e1) (ρ := [.b ns, .no]) (ds := rng 0 6) (fun k ρ => ∃ ns', ρ = [.b ns', .no] ∧ Bx (30 * k) ns') (D.bl true) 6 hr rfl (fun k ρ' h => by obtain ⟨ns', rfl, _⟩ := h; rfl) rfl (by rw [rng_len]; decide) (by rw [rng_len]; decide) ⟨ns, rfl, hb⟩ (fun d hd k ρ h hk => by
    obtain ⟨ns1, rfl, h1⟩ := h
    obtain ⟨ns2, e2, h2⟩ := case_ok h1 (by omega)
    refine ⟨[.b ns1, .d d], [.b ns2, .d d], rfl, ?_, ns2, rfl, by rw [show 30 * (k + 1) = 30 * k + 30 by omega]; exact h2⟩
    simp [m_law_right_e1, Lq.runF, Lq.runB, Lq.runL, Lq.boxAt, Lq.startR, Lq.seqS, Lq.nextS, Lq.ifS, Lq.asgS, Lq.asgM, Lq.asgG, Lq.retS, Lq.retF, Lq.dropS, Lq.forS, Lq.loopS, Lq.turnS, Lq.putItem, Lq.isMB, Lq.putS1, Lq.parS, Lq.consMd, Lq.consMf', Lq.noErr, Lq.nilM, Lq.setsR, Lq.nameE, Lq.constE, Lq.op1E, Lq.op2E, Lq.opNE, Lq.opNF, Lq.op2F, Lq.lift1, Lq.lift2, Lq.liftN, Lq.res, Lq.resAll, Lq.valT, Lq.notT, Lq.andT, Lq.orT, Lq.andE, Lq.orE, Lq.notE, Lq.ifE, Lq.consA, Lq.nilA, Lq.frzE, Lq.lstF, Lq.tupE, Lq.callE, Lq.callBE, Lq.callL, Lq.callNew, Lq.slotted, Lq.datAll, Lq.appE, Lq.popE, Lq.compF, Lq.compLoop, Lq.compTurn, Lq.yesT, Lq.wipeR, Lq.backR, Lq.plainC, Lq.nameG, Lq.tupG, Lq.consG, Lq.nilG, Lq.seqI, Lq.rngI1, Lq.rngI2, Lq.enumI, Lq.zipI, Lq.isiE, Lq.slE, Lq.aPart, Lq.noPart, Lq.chainE, Lq.strM, Lq.orF, Lq.R.bind, Lq.R.thnO, Lq.raiseS, Lq.raise0S, Lq.tryS, Lq.hNil, Lq.hAs, Lq.goneS, Lq.enumA, Lq.enumK, Lq.ifF, Lq.permA, Lq.permL, Lq.D.noL, Lq.noLs, Lq.isEx, Lq.fldD, Lq.isErrD, Lq.itemsOf, Lq.onlyB, Lq.isB, Lq.D.flat, Lq.starA, Lq.extE, Lq.augS, Lq.ixTE, Lq.mvS, Lq.dfA, Lq.slotD, Lq.propD, Lq.mkE, Lq.mkE0, Lq.callNewN, Lq.isErrND, Lq.callME, e2])
  rw [map_yes, rng_len] at e
  have ea := all_true 6
  refine ⟨ns', ?_⟩
  rw [f_law_right, m_law_right, m_law_right_c1]
  generalize hF : compF [1] (rngI1 (consA (constE (.int 6)) nilA)) (nameG 1) yesT m_law_right_e1 = F at e
  generalize List.replicate 6 (D.bl true) = L at e ea
  have ho := hand_ok
  simp [Lq.runF, Lq.runB, Lq.runL, Lq.boxAt, Lq.startR, Lq.seqS, Lq.nextS, Lq.ifS, Lq.asgS, Lq.asgM, Lq.asgG, Lq.retS, Lq.retF, Lq.dropS, Lq.forS, Lq.loopS, Lq.turnS, Lq.putItem, Lq.isMB, Lq.putS1, Lq.parS, Lq.consMd, Lq.consMf', Lq.noErr, Lq.nilM, Lq.setsR, Lq.nameE, Lq.constE, Lq.op1E, Lq.op2E, Lq.opNE, Lq.opNF, Lq.op2F, Lq.lift1, Lq.lift2, Lq.liftN, Lq.res, Lq.resAll, Lq.valT, Lq.notT, Lq.andT, Lq.orT, Lq.andE, Lq.orE, Lq.notE, Lq.ifE, Lq.consA, Lq.nilA, Lq.frzE, Lq.lstF, Lq.tupE, Lq.callE, Lq.callBE, Lq.callL, Lq.callNew, Lq.slotted, Lq.datAll, Lq.appE, Lq.popE, Lq.compF, Lq.compLoop, Lq.compTurn, Lq.yesT, Lq.wipeR, Lq.backR, Lq.plainC, Lq.nameG, Lq.tupG, Lq.consG, Lq.nilG, Lq.seqI, Lq.rngI1, Lq.rngI2, Lq.enumI, Lq.zipI, Lq.isiE, Lq.slE, Lq.aPart, Lq.noPart, Lq.chainE, Lq.strM, Lq.orF, Lq.R.bind, Lq.R.thnO, Lq.raiseS, Lq.raise0S, Lq.tryS, Lq.hNil, Lq.hAs, Lq.goneS, Lq.enumA, Lq.enumK, Lq.ifF, Lq.permA, Lq.permL, Lq.D.noL, Lq.noLs, Lq.isEx, Lq.fldD, Lq.isErrD, Lq.itemsOf, Lq.onlyB, Lq.isB, Lq.D.flat, Lq.starA, Lq.extE, Lq.augS, Lq.ixTE, Lq.mvS, Lq.dfA, Lq.slotD, Lq.propD, Lq.mkE, Lq.mkE0, Lq.callNewN, Lq.isErrND, Lq.callME, ho, e, ea]
theorem law_true (ns : List Int) (h : ns.length ≤ 63) : f_law [.scr ns] = .ok (.bl true) := frame (fun _ hb => right_ok hb) h
end
end Lw
open PySem PySem.W PyProof.Rows
set_option maxHeartbeats 0 in
theorem PySem.Challenge.cw_heirturns_k02_wrong_texts_of_runs_holds : PySem.Challenge.rw_heirturns_k02_wrong_texts_of_runs.Holds := by
  w_on; o_law; k_head; (case hw => w_witness2)
  k_fill
  refine L2.walk_of (l := PySem.Challenge.rw_heirturns_k02_wrong_texts_of_runs) (n := 63) (k := 12) (x := "_law_script") (CX := fun w => L2.CX (PySem.Challenge.rw_heirturns_k02_wrong_texts_of_runs).prog w) (sp := fun w => Lq.spA _ 1 Lw.f_law) rfl (by decide) rfl ⟨rfl, by decide, by decide⟩ (fun w h Y => PySem.W.kIn_of Y) ?F (fun _ H a ns hl _ hS T h0 => ⟨H, [.scr ns], ⟨Lq.Same.refl _, fun h => by rw [h0] at h; cases h⟩, ⟨_, _, rfl, ⟨a, rfl, hS⟩, rfl⟩, rfl, by rw [Lw.law_true ns hl]; exact fun _ _ _ _ r => r⟩) (fun _ _ _ _ _ z => Lq.cx_no z)
  case F =>
    intro w mg fa h KX G hmg
    refine' Lw.fin (Lw.mkTx KX G ?a_number_in ?l_number_in ?c_number_in ?k_number_in ?a_run_in ?l_run_in ?c_run_in ?k_run_in ?a_runs_from ?l_runs_from ?c_runs_from ?k_runs_from ?a_law_box ?l_law_box ?c_law_box ?k_law_box ?a_law_take ?l_law_take ?c_law_take ?k_law_take ?a_law_cells ?l_law_cells ?c_law_cells ?k_law_cells ?a_law_of ?l_law_of ?c_law_of ?k_law_of ?a_law_same ?l_law_same ?c_law_same ?k_law_same ?a_law_bits ?l_law_bits ?c_law_bits ?k_law_bits ?a_law_bit_words ?l_law_bit_words ?c_law_bit_words ?k_law_bit_words ?a_law_heard ?l_law_heard ?c_law_heard ?k_law_heard ?a_law_by_hand_right ?l_law_by_hand_right ?c_law_by_hand_right ?k_law_by_hand_right ?a_law_bent ?l_law_bent ?c_law_bent ?k_law_bent ?a_law_case_right ?l_law_case_right ?c_law_case_right ?k_law_case_right ?a_law_right ?l_law_right ?c_law_right ?k_law_right ?a_law ?l_law ?c_law ?k_law ?eg_BadText ?el_BadText ?esa_BadText ?eex_BadText ?ety_BadText ?ek_BadText ?ei_BadText ?eti_BadText ?eno_BadText ?ega_BadText ?egg_BadText ?ehd_BadText ?eli_BadText ?eci_BadText ?eki_BadText ?su_BadText_BadText ?z_abs ?z_all ?z_bool ?z_enumerate ?z_int ?z_isinstance ?z_len ?z_list ?z_range ?z_str ?z_tuple ?z_zip ?q_DIGITS ?q_BLANK ?q_PAIR ?q_HEIRS ?lt_HEIRS ?q_NOTHING ?q_BETWEEN) rfl hmg
    (case a_number_in => k_is); (case l_number_in => k_is); (case c_number_in => k_is); (case k_number_in => k_is); (case a_run_in => k_is); (case l_run_in => k_is); (case c_run_in => k_is); (case k_run_in => k_is); (case a_runs_from => k_is); (case l_runs_from => k_is); (case c_runs_from => k_is); (case k_runs_from => k_is); (case a_law_box => k_is); (case l_law_box => k_is); (case c_law_box => k_is); (case k_law_box => k_is); (case a_law_take => k_is); (case l_law_take => k_is); (case c_law_take => k_is); (case k_law_take => k_is); (case a_law_cells => k_is); (case l_law_cells => k_is); (case c_law_cells => k_is); (case k_law_cells => k_is); (case a_law_of => k_is); (case l_law_of => k_is); (case c_law_of => k_is); (case k_law_of => k_is); (case a_law_same => k_is); (case l_law_same => k_is); (case c_law_same => k_is); (case k_law_same => k_is); (case a_law_bits => k_is); (case l_law_bits => k_is); (case c_law_bits => k_is); (case k_law_bits => k_is); (case a_law_bit_words => k_is); (case l_law_bit_words => k_is); (case c_law_bit_words => k_is); (case k_law_bit_words => k_is); (case a_law_heard => k_is); (case l_law_heard => k_is); (case c_law_heard => k_is); (case k_law_heard => k_is); (case a_law_by_hand_right => k_is); (case l_law_by_hand_right => k_is); (case c_law_by_hand_right => k_is); (case k_law_by_hand_right => k_is); (case a_law_bent => k_is); (case l_law_bent => k_is); (case c_law_bent => k_is); (case k_law_bent => k_is); (case a_law_case_right => k_is); (case l_law_case_right => k_is); (case c_law_case_right => k_is); (case k_law_case_right => k_is); (case a_law_right => k_is); (case l_law_right => k_is); (case c_law_right => k_is); (case k_law_right => k_is); (case a_law => k_is); (case l_law => k_is); (case c_law => k_is); (case k_law => k_is); (case eg_BadText => k_is); (case el_BadText => k_is); (case esa_BadText => k_is); (case eex_BadText => k_is); (case ety_BadText => k_is); (case ek_BadText => k_is); (case ei_BadText => k_is); (case eti_BadText => k_is); (case eno_BadText => k_is); (case ega_BadText => k_is); (case egg_BadText => k_is); (case ehd_BadText => k_is); (case eli_BadText => k_is); (case eci_BadText => k_is); (case eki_BadText => k_is); (case su_BadText_BadText => k_is); (case z_abs => k_is); (case z_all => k_is); (case z_bool => k_is); (case z_enumerate => k_is); (case z_int => k_is); (case z_isinstance => k_is); (case z_len => k_is); (case z_list => k_is); (case z_range => k_is); (case z_str => k_is); (case z_tuple => k_is); (case z_zip => k_is); (case q_DIGITS => k_is); (case q_BLANK => k_is); (case q_PAIR => k_is); (case q_HEIRS => k_is); (case lt_HEIRS => k_is); (case q_NOTHING => k_is); (case q_BETWEEN => k_is)
