import PyProof.Rows.All
import Wide.All
import OpenK.AllK
import Wide.FinOn
import HandS.ForMost
import HandS.ForExc
import HandS.CallSlots
import HandS.Slots
import HandS.ExcValue
import HandS.ExcInit
import HandS.TupAny
import HandS.NoneIn
import HandS.Zip
import HandS.TupMul
import HandS.IsInst
import HandS.Style
import PyProof.Rows.SortShellAny
import PyProof.TupleOfSeq
import HandS.Flow
import HandS.ExcField
import HandS.SetFor
import HandS.ExcIs
import KE.GoesEnum
import HandS.SlotsOwn
import HandS.Defaults
import HandS.Star
import HandS.FltList
import KE.DataFind
import KE.KSortTupG
import HandS.TupSets
import PyProof.TupleOfStr
import HandS.ClsMeth
import HandS.NamedTupGet
import HandS.Conv
import HandS.Wide
import KE.KTryMore
import PySem.Challenge.RW_heirturns_k37_lists_that_are_changed
set_option Elab.async false
set_option linter.all false
set_option maxRecDepth 100000
set_option maxHeartbeats 4000000
namespace Lq
open PySem PySem.Spec PyProof.Rows L2

/-! ### plain data -/
inductive D where
  | non
  | bl (b : Bool)
  | int (i : Int)
  | str (s : Str)
  | lst (xs : List D)
  | tup (xs : List D)
  | obj (t : Nat) (fs : List D)
  | scr (ns : List Int)

inductive Cell where
  | no
  | d (x : D)
  | m (xs : List D)
  | b (ns : List Int)
  | s (t : Nat)
abbrev Rho := List Cell
/-- a value: data, or the list that a slot holds as its own -/
inductive VD where
  | d (x : D)
  | sl (i : Nat)
/-- an error: its class, its fields -/
structure Xn where
  t : Nat
  fs : List D
inductive R (α : Type) where
  | ok (a : α) (r : Rho)
  | err (x : Xn) (r : Rho)
  | bad
def R.bind {α β : Type} (r : R α) (k : α → Rho → R β) : R β := match r with
  | .ok a q => k a q
  | .err x q => .err x q
  | .bad => .bad
/-- what a def gives -/
inductive Res where
  | ok (d : D)
  | err (x : Xn)
  | bad

abbrev Tb := Nat → Addr
/-- the kinds of objects: errors below 20, instances with slots from 20 on -/
def flds : Nat → List Str
  | 0 => ["place"] | 1 => ["piece"] | 2 => ["number"] | 3 => ["name"] | 4 => ["number"] | 5 => ["given"] | 6 => ["given"] | 7 => ["name"] | 8 => ["given"] | 9 => ["name"] | 10 => ["name"] | 11 => ["number"]
  | _ => []
def isEx (t : Nat) : Bool := Nat.blt t 20
/-- an error that was caught, at a -/
def ExK (C d a : Addr) : HO := .ext fun h => ∃ (oe : Obj) (vs : Array Value), h.get? a = some oe ∧ Zc (.ref C) (some d) oe ∧ oe.data = .fields vs
def OB (T : Tb) (S : Hp) (t : Nat) (a : Addr) (vs : List V) : Prop :=
  (isEx t = true ∧ ∃ dd, S a = some (ExK (T t) dd a) ∧ S dd = some (.xd ((flds t).zip vs))) ∨ (isEx t = false ∧ ∃ dx, S a = some (SlX.SlO a (T t) dx (vs.map some)) ∧ S dx = some (.xd []))
theorem OB.mono {T : Tb} {S S' : Hp} {t : Nat} {a : Addr} {vs : List V} (e : Same S S') (h : OB T S t a vs) : OB T S' t a vs := by
  rcases h with ⟨h, dd, h1, h2⟩ | ⟨h, dd, h1, h2⟩
  · exact .inl ⟨h, dd, e _ _ h1, e _ _ h2⟩
  · exact .inr ⟨h, dd, e _ _ h1, e _ _ h2⟩
mutual
def Rp (K : PySem.W.Frag) (T : Tb) (S : Hp) : D → V → Prop
  | .non, v => v = .non
  | .bl b, v => v = .bl b
  | .int i, v => v = .int i
  | .str x, v => v = .str x
  | .lst ds, v => ∃ a vs, v = .ref a ∧ S a = some (.lst vs) ∧ Rps K T S ds vs
  | .tup ds, v => ∃ a vs, v = .ref a ∧ SqT K S a vs ∧ Rps K T S ds vs
  | .obj t ds, v => ∃ a vs, v = .ref a ∧ OB T S t a vs ∧ Rps K T S ds vs
  | .scr ns, v => ∃ a, v = .ref a ∧ SqL K S a (ns.map V.int)
def Rps (K : PySem.W.Frag) (T : Tb) (S : Hp) : List D → List V → Prop
  | [], vs => vs = []
  | d :: ds, vs => ∃ v r, vs = v :: r ∧ Rp K T S d v ∧ Rps K T S ds r
end
section
variable {K : PySem.W.Frag} {T : Tb} {S S' : Hp}
theorem same_tup {a : Addr} {xs : List V} (e : Same S S') (h : SqT K S a xs) : SqT K S' a xs := by
  rcases h with h | h
  · rcases h with h | ⟨o, h⟩
    · exact .inl (.inl (e _ _ h))
    · exact .inl (.inr ⟨o, e _ _ h⟩)
  · exact .inr h
mutual
theorem Rp.mono (e : Same S S') : ∀ (d : D) (v : V), Rp K T S d v → Rp K T S' d v
  | .non, _, h => h
  | .bl _, _, h => h
  | .int _, _, h => h
  | .str _, _, h => h
  | .lst ds, _, ⟨a, vs, e1, h, hs⟩ => ⟨a, vs, e1, e _ _ h, Rps.mono e ds vs hs⟩
  | .tup ds, _, ⟨a, vs, e1, h, hs⟩ => ⟨a, vs, e1, same_tup e h, Rps.mono e ds vs hs⟩
  | .obj _ ds, _, ⟨a, vs, e1, h, hs⟩ => ⟨a, vs, e1, h.mono e, Rps.mono e ds vs hs⟩
  | .scr _, _, ⟨a, e1, h⟩ => ⟨a, e1, e.seq h⟩
theorem Rps.mono (e : Same S S') : ∀ (ds : List D) (vs : List V), Rps K T S ds vs → Rps K T S' ds vs
  | [], _, h => h
  | d :: ds, _, ⟨v, r, e1, h, hs⟩ => ⟨v, r, e1, Rp.mono e d v h, Rps.mono e ds r hs⟩
end
theorem Rps.len : ∀ {ds : List D} {vs : List V}, Rps K T S ds vs → vs.length = ds.length
  | [], _, h => by rw [show _ = [] from h]; rfl
  | d :: ds, _, ⟨v, r, e1, h, hs⟩ => by rw [e1, List.length_cons, List.length_cons, Rps.len hs]
theorem Rps.get : ∀ {ds : List D} {vs : List V} {i : Nat} {d : D}, Rps K T S ds vs → ds[i]? = some d → ∃ v, vs[i]? = some v ∧ Rp K T S d v
  | [], _, _, _, h, e => by simp at e
  | d :: ds, _, 0, _, ⟨v, r, e1, h, hs⟩, e => by
    simp at e; subst e; exact ⟨v, by rw [e1]; rfl, h⟩
  | d :: ds, _, i + 1, _, ⟨v, r, e1, h, hs⟩, e => by
    obtain ⟨w, h1, h2⟩ := Rps.get (i := i) hs (by simpa using e)
    exact ⟨w, by rw [e1]; simpa using h1, h2⟩
theorem Rps.append : ∀ {ds es : List D} {vs ws : List V}, Rps K T S ds vs → Rps K T S es ws → Rps K T S (ds ++ es) (vs ++ ws)
  | [], _, _, _, h, q => by rw [show _ = [] from h]; exact q
  | d :: ds, _, _, _, ⟨v, r, e1, h, hs⟩, q => ⟨v, r ++ _, by rw [e1]; rfl, h, Rps.append hs q⟩
theorem Rps.take : ∀ {ds : List D} {vs : List V} (n : Nat), Rps K T S ds vs → Rps K T S (ds.take n) (vs.take n)
  | _, _, 0, _ => by simp only [List.take_zero]; exact rfl
  | [], _, n + 1, h => by rw [show _ = [] from h]; simp only [List.take_nil]; exact rfl
  | d :: ds, _, n + 1, ⟨v, r, e1, h, hs⟩ => by rw [e1]; exact ⟨v, r.take n, rfl, h, Rps.take n hs⟩
theorem Rps.drop : ∀ {ds : List D} {vs : List V} (n : Nat), Rps K T S ds vs → Rps K T S (ds.drop n) (vs.drop n)
  | _, _, 0, h => h
  | [], _, n + 1, h => by rw [show _ = [] from h]; simp only [List.drop_nil]; exact rfl
  | d :: ds, _, n + 1, ⟨v, r, e1, h, hs⟩ => by rw [e1]; exact Rps.drop n hs
theorem Rps.reverse : ∀ {ds : List D} {vs : List V}, Rps K T S ds vs → Rps K T S ds.reverse vs.reverse
  | [], _, h => by rw [show _ = [] from h]; exact rfl
  | d :: ds, _, ⟨v, r, e1, h, hs⟩ => by
    rw [e1, List.reverse_cons, List.reverse_cons]
    exact Rps.append (Rps.reverse hs) ⟨v, [], rfl, h, rfl⟩
theorem Rps.one {d : D} {v : V} (h : Rp K T S d v) : Rps K T S [d] [v] := ⟨v, [], rfl, h, rfl⟩
theorem Rps.set : ∀ {ds : List D} {vs : List V} {d : D} {v : V} (i : Nat), Rps K T S ds vs → Rp K T S d v → Rps K T S (ds.set i d) (vs.set i v)
  | [], _, _, _, _, h, _ => by rw [show _ = [] from h]; exact rfl
  | d :: ds, _, _, _, 0, ⟨v, r, e1, h, hs⟩, q => by rw [e1]; exact ⟨_, r, rfl, q, hs⟩
  | d :: ds, _, _, _, i + 1, ⟨v, r, e1, h, hs⟩, q => by rw [e1]; exact ⟨v, _, rfl, h, Rps.set i hs q⟩
theorem Rps.ints : ∀ (ns : List Int), Rps K T S (ns.map D.int) (ns.map V.int)
  | [] => rfl
  | n :: ns => ⟨_, _, rfl, rfl, Rps.ints ns⟩
theorem Rps.strs : ∀ (ns : List Str), Rps K T S (ns.map D.str) (ns.map V.str)
  | [] => rfl
  | n :: ns => ⟨_, _, rfl, rfl, Rps.strs ns⟩
theorem Rps.bls : ∀ (ns : List Bool), Rps K T S (ns.map D.bl) (ns.map V.bl)
  | [] => rfl
  | n :: ns => ⟨_, _, rfl, rfl, Rps.bls ns⟩
/-- ints read back -/
def D.int? : D → Option Int
  | .int i => some i
  | _ => none
def D.str? : D → Option Str
  | .str i => some i
  | _ => none
def D.bl? : D → Option Bool
  | .bl i => some i
  | _ => none
def D.items? : D → Option (List D)
  | .lst xs => some xs
  | .tup xs => some xs
  | _ => none
def allOf {α : Type} (f : D → Option α) : List D → Option (List α)
  | [] => some []
  | d :: ds => match f d, allOf f ds with
    | some a, some l => some (a :: l)
    | _, _ => none
theorem allOf_ints : ∀ {ds : List D} {ns : List Int}, allOf D.int? ds = some ns → ds = ns.map D.int
  | [], ns, h => by simp [allOf] at h; subst h; rfl
  | d :: ds, ns, h => by
    cases d <;> simp [allOf, D.int?] at h
    rename_i i
    cases q : allOf D.int? ds with
    | none => rw [q] at h; simp at h
    | some l => rw [q] at h; simp at h; subst h; rw [allOf_ints q]; rfl
theorem allOf_strs : ∀ {ds : List D} {ns : List Str}, allOf D.str? ds = some ns → ds = ns.map D.str
  | [], ns, h => by simp [allOf] at h; subst h; rfl
  | d :: ds, ns, h => by
    cases d <;> simp [allOf, D.str?] at h
    rename_i i
    cases q : allOf D.str? ds with
    | none => rw [q] at h; simp at h
    | some l => rw [q] at h; simp at h; subst h; rw [allOf_strs q]; rfl
theorem allOf_bls : ∀ {ds : List D} {ns : List Bool}, allOf D.bl? ds = some ns → ds = ns.map D.bl
  | [], ns, h => by simp [allOf] at h; subst h; rfl
  | d :: ds, ns, h => by
    cases d <;> simp [allOf, D.bl?] at h
    rename_i i
    cases q : allOf D.bl? ds with
    | none => rw [q] at h; simp at h
    | some l => rw [q] at h; simp at h; subst h; rw [allOf_bls q]; rfl
theorem Rps.intsV : ∀ {ns : List Int} {vs : List V}, Rps K T S (ns.map D.int) vs → vs = ns.map V.int
  | [], _, h => h
  | n :: ns, _, ⟨v, r, e1, h, hs⟩ => by rw [e1, show v = _ from h, Rps.intsV hs]; rfl
theorem Rps.strsV : ∀ {ns : List Str} {vs : List V}, Rps K T S (ns.map D.str) vs → vs = ns.map V.str
  | [], _, h => h
  | n :: ns, _, ⟨v, r, e1, h, hs⟩ => by rw [e1, show v = _ from h, Rps.strsV hs]; rfl
theorem Rps.blsV : ∀ {ns : List Bool} {vs : List V}, Rps K T S (ns.map D.bl) vs → vs = ns.map V.bl
  | [], _, h => h
  | n :: ns, _, ⟨v, r, e1, h, hs⟩ => by rw [e1, show v = _ from h, Rps.blsV hs]; rfl

/-! ### heaps grow -/
structure Ext (S H S' H' : Hp) : Prop where
  s : Same S S'
  h : Same H H'
  sh : Same S' H'
  fr : ∀ b o, H b = some o → S' b = S b
theorem Ext.refl {S H : Hp} (e : Same S H) : Ext S H S H := ⟨Same.refl _, Same.refl _, e, fun _ _ _ => rfl⟩
theorem Ext.trans {S H S1 H1 S2 H2 : Hp} (a : Ext S H S1 H1) (b : Ext S1 H1 S2 H2) : Ext S H S2 H2 :=
  ⟨a.s.trans b.s, a.h.trans b.h, b.sh, fun c o e => (b.fr c o (a.h c o e)).trans (a.fr c o e)⟩
theorem same_new {H : Hp} {p : Addr} {o : HO} (h : H p = none) : Same H (upd H p o) := fun b u e => by
  rw [upd_ne (ne_of_none e h)]; exact e
theorem same_upd2 {S H : Hp} {p : Addr} {o : HO} (e : Same S H) : Same (upd S p o) (upd H p o) := fun b u q => by
  by_cases hb : b = p
  · subst hb; rw [upd_same] at q ⊢; exact q
  · rw [upd_ne hb] at q ⊢; exact e b u q
theorem Ext.new {S H : Hp} {p : Addr} {o : HO} (e : Same S H) (h : H p = none) : Ext S H (upd S p o) (upd H p o) :=
  ⟨same_new (e.free h), same_new h, same_upd2 e, fun b u q => upd_ne (ne_of_none q h)⟩
theorem Ext.skip {S H : Hp} {p : Addr} {o : HO} (e : Same S H) (h : H p = none) : Ext S H S (upd H p o) :=
  ⟨Same.refl _, same_new h, e.trans (same_new h), fun b u q => rfl⟩

/-- what comes is d, behind a growth of the heap -/
def Gv (K : PySem.W.Frag) (T : Tb) (S H : Hp) (d : D) (Q : VK) : Prop := ∀ S' H' v, Ext S H S' H' → Rp K T S' d v → Q v H'
/-- .. a new list, that nobody else has -/
def Gf (K : PySem.W.Frag) (T : Tb) (S H : Hp) (ds : List D) (Q : VK) : Prop := ∀ S' H' p vs, Ext S H S' H' → H p = none → S' p = none → H' p = some (.lst vs) → Rps K T S' ds vs → Q (.ref p) H'
theorem Gv.now {H : Hp} {d : D} {v : V} {Q : VK} (g : Gv K T S H d Q) (e : Same S H) (r : Rp K T S d v) : Q v H := g S H v (Ext.refl e) r
theorem Gv.newL {H : Hp} {ds : List D} {vs : List V} {Q : VK} (g : Gv K T S H (.lst ds) Q) (e : Same S H) (r : Rps K T S ds vs) (p : Addr) (hp : H p = none) : Q (.ref p) (upd H p (.lst vs)) :=
  g _ _ _ (Ext.new e hp) ⟨p, vs, rfl, upd_same, Rps.mono (same_new (e.free hp)) _ _ r⟩
theorem Gv.newT {H : Hp} {ds : List D} {vs : List V} {Q : VK} (g : Gv K T S H (.tup ds) Q) (e : Same S H) (r : Rps K T S ds vs) (p : Addr) (hp : H p = none) : Q (.ref p) (upd H p (.tup vs)) :=
  g _ _ _ (Ext.new e hp) ⟨p, vs, rfl, SqT.of upd_same, Rps.mono (same_new (e.free hp)) _ _ r⟩
theorem Gf.new {H : Hp} {ds : List D} {vs : List V} {Q : VK} (g : Gf K T S H ds Q) (e : Same S H) (r : Rps K T S ds vs) (p : Addr) (hp : H p = none) : Q (.ref p) (upd H p (.lst vs)) :=
  g _ _ p vs (Ext.skip e hp) hp (e.free hp) upd_same r
theorem Gf.of {H : Hp} {ds : List D} {Q : VK} (g : Gv K T S H (.lst ds) Q) : Gf K T S H ds Q := fun S' H' p vs e hp sp hv r =>
  g (upd S' p (.lst vs)) H' (.ref p) ⟨e.s.trans (same_new sp), e.h, fun b o q => by
      by_cases hb : b = p
      · subst hb; rw [upd_same] at q; rw [← q]; exact hv
      · rw [upd_ne hb] at q; exact e.sh b o q, fun b o q => by rw [upd_ne (ne_of_none q hp)]; exact e.fr b o q⟩ ⟨p, vs, rfl, upd_same, Rps.mono (same_new sp) _ _ r⟩

/-! ### a def's slots -/
/-- what a def may change of its caller's: nothing; the list of draws; the instance that it makes, with its dict -/
inductive Bt where
  | no
  | bx (b : Addr)
  | sf (a dx : Addr)
def CellOk (K : PySem.W.Frag) (T : Tb) (β : Bt) (G S H : Hp) (v : Option (Option V)) : Cell → Prop
  | .no => True
  | .d x => ∃ u, v = some (some u) ∧ Rp K T S x u
  | .m xs => ∃ a vs, v = some (some (.ref a)) ∧ H a = some (.lst vs) ∧ S a = none ∧ G a = none ∧ β ≠ .bx a ∧ Rps K T S xs vs
  | .b ns => ∃ a, v = some (some (.ref a)) ∧ β = .bx a ∧ H a = some (.lst (ns.map V.int))
  | .s t => ∃ a dx, v = some (some (.ref a)) ∧ β = .sf a dx ∧ H a = some (.ins (T t) dx []) ∧ H dx = some (.own a) ∧ S dx = none ∧ G dx = none ∧ S a = none ∧ G a = none
structure Ok (K : PySem.W.Frag) (T : Tb) (β : Bt) (G S : Hp) (σ : L2.St) (ρ : Rho) (H : Hp) : Prop where
  sh : Same S H
  gh : Same G H
  gs : ∀ b o, G b = some o → S b = none
  gb : ∀ b, β = .bx b → G b = none ∧ S b = none
  bx : ∀ b, β = .bx b → ∃ o : HO, H b = some o
  len : σ.length = ρ.length
  cel : ∀ (i : Nat) (c : Cell), ρ[i]? = some c → CellOk K T β G S H σ[i]? c
  dis : ∀ (i j : Nat) (xs ys : List D), ρ[i]? = some (.m xs) → ρ[j]? = some (.m ys) → σ[i]? = σ[j]? → i = j
theorem CellOk.ext {β : Bt} {G H H' : Hp} {v : Option (Option V)} {c : Cell} (h : CellOk K T β G S H v c) (e : Ext S H S' H') : CellOk K T β G S' H' v c := by
  cases c with
  | no => trivial
  | d x => obtain ⟨u, e1, r⟩ := h; exact ⟨u, e1, Rp.mono e.s _ _ r⟩
  | m xs =>
    obtain ⟨a, vs, e1, e2, e3, e4, e5, r⟩ := h
    exact ⟨a, vs, e1, e.h _ _ e2, (e.fr _ _ e2).trans e3, e4, e5, Rps.mono e.s _ _ r⟩
  | b ns => obtain ⟨a, e1, e2, e3⟩ := h; exact ⟨a, e1, e2, e.h _ _ e3⟩
  | s t => obtain ⟨a, dx, e1, e2, e3, e4, e5, e6, e7, e8⟩ := h; exact ⟨a, dx, e1, e2, e.h _ _ e3, e.h _ _ e4, (e.fr _ _ e4).trans e5, e6, (e.fr _ _ e3).trans e7, e8⟩
theorem Ok.ext {β : Bt} {G H H' : Hp} {σ : L2.St} {ρ : Rho} (o : Ok K T β G S σ ρ H) (e : Ext S H S' H') : Ok K T β G S' σ ρ H' where
  sh := e.sh
  gh := o.gh.trans e.h
  gs := fun b u q => (e.fr b u (o.gh b u q)).trans (o.gs b u q)
  gb := fun b q => ⟨(o.gb b q).1, by obtain ⟨u, z⟩ := o.bx b q; exact (e.fr b _ z).trans (o.gb b q).2⟩
  bx := fun b q => by obtain ⟨u, z⟩ := o.bx b q; exact ⟨u, e.h b _ z⟩
  len := o.len
  cel := fun i c q => (o.cel i c q).ext e
  dis := o.dis

/-! ### resolving -/
def RpV (K : PySem.W.Frag) (T : Tb) (σ : L2.St) (S : Hp) : VD → V → Prop
  | .d x, u => Rp K T S x u
  | .sl i, u => σ[i]? = some (some u)
def res : VD → Rho → Option D
  | .d x, _ => some x
  | .sl i, ρ => match ρ[i]? with
    | some (.m xs) => some (.lst xs)
    | some (.b ns) => some (.lst (ns.map D.int))
    | _ => none
/-- d at the top in H, its items in S -/
def RpH (K : PySem.W.Frag) (T : Tb) (S H : Hp) (d : D) (v : V) : Prop := Rp K T S d v ∨ ∃ a vs xs, v = .ref a ∧ d = .lst xs ∧ H a = some (.lst vs) ∧ Rps K T S xs vs
theorem RpV.mono {σ : L2.St} {v : VD} {u : V} (e : Same S S') (h : RpV K T σ S v u) : RpV K T σ S' v u := by
  cases v with
  | d x => exact Rp.mono e _ _ h
  | sl i => exact h
theorem Ok.res {β : Bt} {G H : Hp} {σ : L2.St} {ρ : Rho} {v : VD} {u : V} {d : D} (o : Ok K T β G S σ ρ H) (h : RpV K T σ S v u) (e : res v ρ = some d) : RpH K T S H d u := by
  cases v with
  | d x => simp only [Lq.res, Option.some.injEq] at e; subst e; exact .inl h
  | sl i =>
    simp only [Lq.res] at e
    have h' : σ[i]? = some (some u) := h
    split at e
    · rename_i xs q
      cases e
      obtain ⟨a, vs, e1, e2, e3, e4, e5, r⟩ := o.cel i _ q
      rw [h'] at e1; cases e1
      exact .inr ⟨a, vs, xs, rfl, rfl, e2, r⟩
    · rename_i ns q
      cases e
      obtain ⟨a, e1, e2, e3⟩ := o.cel i _ q
      rw [h'] at e1; cases e1
      exact .inr ⟨a, _, _, rfl, rfl, e3, Rps.ints ns⟩
    · cases e
theorem RpH.int {H : Hp} {i : Int} {v : V} (h : RpH K T S H (.int i) v) : v = .int i := by
  rcases h with h | ⟨_, _, _, _, e, _⟩
  · exact h
  · cases e
theorem RpH.str {H : Hp} {i : Str} {v : V} (h : RpH K T S H (.str i) v) : v = .str i := by
  rcases h with h | ⟨_, _, _, _, e, _⟩
  · exact h
  · cases e
theorem RpH.bl {H : Hp} {i : Bool} {v : V} (h : RpH K T S H (.bl i) v) : v = .bl i := by
  rcases h with h | ⟨_, _, _, _, e, _⟩
  · exact h
  · cases e
theorem RpH.non {H : Hp} {v : V} (h : RpH K T S H .non v) : v = .non := by
  rcases h with h | ⟨_, _, _, _, e, _⟩
  · exact h
  · cases e
theorem RpH.lst {H : Hp} {xs : List D} {v : V} (h : RpH K T S H (.lst xs) v) (e : Same S H) : ∃ a vs, v = .ref a ∧ H a = some (.lst vs) ∧ Rps K T S xs vs := by
  rcases h with ⟨a, vs, e1, q, r⟩ | ⟨a, vs, ys, e1, e2, q, r⟩
  · exact ⟨a, vs, e1, e _ _ q, r⟩
  · cases e2; exact ⟨a, vs, e1, q, r⟩
theorem RpH.tup {H : Hp} {xs : List D} {v : V} (h : RpH K T S H (.tup xs) v) (e : Same S H) : ∃ a vs, v = .ref a ∧ SqT K H a vs ∧ Rps K T S xs vs := by
  rcases h with ⟨a, vs, e1, q, r⟩ | ⟨a, vs, ys, e1, e2, q, r⟩
  · exact ⟨a, vs, e1, same_tup e q, r⟩
  · cases e2
end

/-! ### what is wanted behind a piece of code -/
/-- an error, as it lies -/
def XR (K : PySem.W.Frag) (T : Tb) (S : Hp) (x : Xn) (c : Value) (d : Option Addr) : Prop :=
  c = .ref (T x.t) ∧ ∃ dd vs, d = some dd ∧ S dd = some (.xd ((flds x.t).zip vs)) ∧ Rps K T S x.fs vs
def Post (K : PySem.W.Frag) (T : Tb) (W : WX) (β : Bt) (G S : Hp) (σ : L2.St) {α γ : Type} (Rl : Hp → α → γ → Prop) (r : R α) (Q : γ → Hp → Prop) : Prop := match r with
  | .ok a ρ' => ∀ S' H' u, Same S S' → Ok K T β G S' σ ρ' H' → Rl S' a u → Q u H'
  | .err x ρ' => ∀ S' H' c d, Same S S' → Ok K T β G S' σ ρ' H' → XR K T S' x c d → W c d σ H'
  | .bad => False
def rG (K : PySem.W.Frag) (T : Tb) (W : WX) {α γ : Type} (Rl : L2.St → Hp → α → γ → Prop) (f : Rho → R α) : L2.St → Hp → (γ → Hp → Prop) → Prop := fun σ H Q =>
  ∃ β G S ρ, Ok K T β G S σ ρ H ∧ Post K T W β G S σ (Rl σ) (f ρ) Q
section
variable {K : PySem.W.Frag} {T : Tb} {W : WX} {β : Bt} {G S S' : Hp} {σ : L2.St} {α γ α' γ' : Type} {Rl : Hp → α → γ → Prop} {Rl' : Hp → α' → γ' → Prop}
theorem Post.mono {r : R α} {Q : γ → Hp → Prop} (h : Post K T W β G S σ Rl r Q) (e : Same S S') : Post K T W β G S' σ Rl r Q := by
  cases r with
  | ok a ρ' => exact fun S2 H2 u e2 o r => h S2 H2 u (e.trans e2) o r
  | err x ρ' => exact fun S2 H2 c d e2 o r => h S2 H2 c d (e.trans e2) o r
  | bad => exact h
theorem Post.bind {r : R α} {k : α → Rho → R α'} {Q : γ' → Hp → Prop} (h : Post K T W β G S σ Rl' (r.bind k) Q) :
    Post K T W β G S σ Rl r (fun u H1 => ∃ S1 ρ1 a, Same S S1 ∧ Ok K T β G S1 σ ρ1 H1 ∧ Rl S1 a u ∧ Post K T W β G S1 σ Rl' (k a ρ1) Q) := by
  cases r with
  | ok a ρ' => exact fun S1 H1 u e o q => ⟨S1, ρ', a, e, o, q, h.mono e⟩
  | err x ρ' => exact h
  | bad => exact h.elim
theorem Post.thn {r : R α} {k : α → Rho → R α'} {Q : γ' → Hp → Prop} {Q' : γ → Hp → Prop} (h : Post K T W β G S σ Rl' (r.bind k) Q)
    (f : ∀ S1 H1 ρ1 a u, Same S S1 → Ok K T β G S1 σ ρ1 H1 → Rl S1 a u → Post K T W β G S1 σ Rl' (k a ρ1) Q → Q' u H1) : Post K T W β G S σ Rl r Q' := by
  cases r with
  | ok a ρ' => exact fun S1 H1 u e o q => f S1 H1 ρ' a u e o q (Post.mono h e)
  | err x ρ' => exact h
  | bad => exact h.elim
theorem Post.gv {ρ : Rho} {H : Hp} {d : D} {Q : VK} (h : Post K T W β G S σ (RpV K T σ) (.ok (.d d) ρ) Q) (o : Ok K T β G S σ ρ H) : Gv K T S H d Q :=
  fun S' H' v e r => h S' H' v e.s (o.ext e) r
end
/-- an expression, a test, arguments -/
abbrev rE (K : PySem.W.Frag) (T : Tb) (W : WX) (f : Rho → R VD) : TE := rG K T W (RpV K T) f
abbrev rT (K : PySem.W.Frag) (T : Tb) (W : WX) (f : Rho → R Bool) : TT := rG K T W (fun _ _ (b c : Bool) => b = c) f
def RpVs (K : PySem.W.Frag) (T : Tb) (σ : L2.St) (S : Hp) : List VD → List V → Prop
  | [], us => us = []
  | v :: vs, us => ∃ u r, us = u :: r ∧ RpV K T σ S v u ∧ RpVs K T σ S vs r
theorem RpVs.mono {K : PySem.W.Frag} {T : Tb} {σ : L2.St} {S S' : Hp} (e : Same S S') : ∀ {vs : List VD} {us : List V}, RpVs K T σ S vs us → RpVs K T σ S' vs us
  | [], _, h => h
  | _ :: _, _, ⟨u, r, e1, h, hs⟩ => ⟨u, r, e1, h.mono e, RpVs.mono e hs⟩
abbrev rA (K : PySem.W.Frag) (T : Tb) (W : WX) (f : Rho → R (List VD)) : TA := rG K T W (RpVs K T) f
def XE (X : Cx) (T : Tb) (W : WX) (e : Expr) (f : Rho → R VD) : Prop := PE X e (rE X.K T W f)
def XT (X : Cx) (T : Tb) (W : WX) (e : Expr) (f : Rho → R Bool) : Prop := PT X e (rT X.K T W f)
def XA (X : Cx) (T : Tb) (W : WX) (es : List Expr) (f : Rho → R (List VD)) : Prop := PA X es (rA X.K T W f)
theorem _root_.L2.PE.impQ {X : Cx} {e : Expr} {t t' : TE} (h : PE X e t) (i : ∀ σ H Q, t' σ H Q → t σ H Q) : PE X e t' := ⟨fun pins s σ H Q I w => h.run pins s σ H Q I (i σ H Q w)⟩
theorem _root_.L2.PT.impQ {X : Cx} {e : Expr} {t t' : TT} (h : PT X e t) (i : ∀ σ H Q, t' σ H Q → t σ H Q) : PT X e t' := ⟨fun pins s σ H Q I w => h.run pins s σ H Q I (i σ H Q w)⟩
theorem _root_.L2.PA.impQ {X : Cx} {e : List Expr} {t t' : TA} (h : PA X e t) (i : ∀ σ H Q, t' σ H Q → t σ H Q) : PA X e t' := ⟨fun pos pins s σ H Q I w => h.run pos pins s σ H Q I (i σ H Q w)⟩
theorem _root_.L2.PS.impQ {X : Cx} {e : Stmt} {t t' : TS} (h : PS X e t) (i : ∀ D σ H, t' D σ H → t D σ H) : PS X e t' := ⟨fun pins s σ H D I w => h.run pins s σ H D I (i D σ H w)⟩
theorem _root_.L2.PSs.impQ {X : Cx} {e : List Stmt} {t t' : TS} (h : PSs X e t) (i : ∀ D σ H, t' D σ H → t D σ H) : PSs X e t' := ⟨fun pins s σ H D I w => h.run pins s σ H D I (i D σ H w)⟩
end Lq
namespace Lq
open PySem PySem.Spec PyProof.Rows L2

def nameE (i : Nat) : Rho → R VD := fun ρ => match ρ[i]? with
  | some (.d x) => .ok (.d x) ρ
  | some (.m _) => .ok (.sl i) ρ
  | some (.b _) => .ok (.sl i) ρ
  | _ => .bad
def constE (d : D) : Rho → R VD := fun ρ => .ok (.d d) ρ
def lift1 (g : D → Option D) (v : VD) (ρ : Rho) : R VD := match res v ρ with
  | some x => (match g x with | some d => .ok (.d d) ρ | none => .bad)
  | none => .bad
def lift2 (g : D → D → Option D) (v w : VD) (ρ : Rho) : R VD := match res v ρ, res w ρ with
  | some x, some y => (match g x y with | some d => .ok (.d d) ρ | none => .bad)
  | _, _ => .bad
def op1E (g : D → Option D) (fa : Rho → R VD) : Rho → R VD := fun ρ => (fa ρ).bind fun v ρ1 => lift1 g v ρ1
def op2E (g : D → D → Option D) (fa fb : Rho → R VD) : Rho → R VD := fun ρ => (fa ρ).bind fun v ρ1 => (fb ρ1).bind fun w ρ2 => lift2 g v w ρ2
def resAll : List VD → Rho → Option (List D)
  | [], _ => some []
  | v :: vs, ρ => match res v ρ, resAll vs ρ with
    | some x, some xs => some (x :: xs)
    | _, _ => none
def liftN (g : List D → Option D) (vs : List VD) (ρ : Rho) : R VD := match resAll vs ρ with
  | some xs => (match g xs with | some d => .ok (.d d) ρ | none => .bad)
  | none => .bad
def opNE (g : List D → Option D) (fa : Rho → R (List VD)) : Rho → R VD := fun ρ => (fa ρ).bind fun vs ρ1 => liftN g vs ρ1
def RpHs (K : PySem.W.Frag) (T : Tb) (S H : Hp) : List D → List V → Prop
  | [], us => us = []
  | d :: ds, us => ∃ u r, us = u :: r ∧ RpH K T S H d u ∧ RpHs K T S H ds r
theorem Ok.resAll {K : PySem.W.Frag} {T : Tb} {β : Bt} {G S H : Hp} {σ : L2.St} {ρ : Rho} (o : Ok K T β G S σ ρ H) : ∀ {vs : List VD} {us : List V} {ds : List D}, RpVs K T σ S vs us → resAll vs ρ = some ds → RpHs K T S H ds us
  | [], us, ds, h, e => by
    simp only [Lq.resAll, Option.some.injEq] at e; subst e; exact h
  | v :: vs, us, ds, ⟨u, r, e1, h, hs⟩, e => by
    simp only [Lq.resAll] at e
    split at e
    · rename_i x xs q1 q2
      cases e
      exact ⟨u, r, e1, o.res h q1, Ok.resAll o hs q2⟩
    · cases e

def Prim1 (K : PySem.W.Frag) (T : Tb) (r : V → Hp → VK → Prop) (g : D → Option D) : Prop := ∀ S H x dx d Q, Same S H → RpH K T S H dx x → g dx = some d → Gv K T S H d Q → r x H Q
def Prim2 (K : PySem.W.Frag) (T : Tb) (r : R2) (g : D → D → Option D) : Prop := ∀ S H x y dx dy d Q, Same S H → RpH K T S H dx x → RpH K T S H dy y → g dx dy = some d → Gv K T S H d Q → r x y H Q
def PrimN (K : PySem.W.Frag) (T : Tb) (r : List V → Hp → VK → Prop) (g : List D → Option D) : Prop := ∀ S H xs ds d Q, Same S H → RpHs K T S H ds xs → g ds = some d → Gv K T S H d Q → r xs H Q
section
variable {K : PySem.W.Frag} {T : Tb} {W : WX} {β : Bt} {G S H : Hp} {σ : L2.St} {ρ : Rho} {Q : VK}
theorem Post.lift1 {g : D → Option D} {r : V → Hp → VK → Prop} {v : VD} {u : V} (hp : Prim1 K T r g) (o : Ok K T β G S σ ρ H) (h : RpV K T σ S v u) (p : Post K T W β G S σ (RpV K T σ) (lift1 g v ρ) Q) : r u H Q := by
  unfold Lq.lift1 at p
  split at p
  · rename_i x e
    split at p
    · rename_i d e2
      exact hp S H u x d Q o.sh (o.res h e) e2 (p.gv o)
    · exact p.elim
  · exact p.elim
theorem Post.lift2 {g : D → D → Option D} {r : R2} {v w : VD} {u z : V} (hp : Prim2 K T r g) (o : Ok K T β G S σ ρ H) (h : RpV K T σ S v u) (h2 : RpV K T σ S w z) (p : Post K T W β G S σ (RpV K T σ) (lift2 g v w ρ) Q) : r u z H Q := by
  unfold Lq.lift2 at p
  split at p
  · rename_i x y e e'
    split at p
    · rename_i d e2
      exact hp S H u z x y d Q o.sh (o.res h e) (o.res h2 e') e2 (p.gv o)
    · exact p.elim
  · exact p.elim
theorem Post.liftN {g : List D → Option D} {r : List V → Hp → VK → Prop} {vs : List VD} {us : List V} (hp : PrimN K T r g) (o : Ok K T β G S σ ρ H) (h : RpVs K T σ S vs us) (p : Post K T W β G S σ (RpV K T σ) (liftN g vs ρ) Q) : r us H Q := by
  unfold Lq.liftN at p
  split at p
  · rename_i xs e
    split at p
    · rename_i d e2
      exact hp S H us xs d Q o.sh (o.resAll h e) e2 (p.gv o)
    · exact p.elim
  · exact p.elim
theorem tOp_of {g : D → D → Option D} {r : R2} {fa fb : Rho → R VD} (hp : Prim2 K T r g) (h : rE K T W (op2E g fa fb) σ H Q) : tOp r (rE K T W fa) (rE K T W fb) σ H Q := by
  obtain ⟨β, G, S, ρ, o, p⟩ := h
  refine ⟨β, G, S, ρ, o, Post.thn (Rl := RpV K T σ) p fun S1 H1 ρ1 v u e1 o1 h1 p1 => ?_⟩
  refine ⟨β, G, S1, ρ1, o1, Post.thn (Rl := RpV K T σ) p1 fun S2 H2 ρ2 w z e2 o2 h2 p2 => ?_⟩
  exact Post.lift2 hp o2 (h1.mono e2) h2 p2
theorem tUn_of {g : D → Option D} {r : V → Hp → VK → Prop} {fa : Rho → R VD} (hp : Prim1 K T r g) (h : rE K T W (op1E g fa) σ H Q) : tUn r (rE K T W fa) σ H Q := by
  obtain ⟨β, G, S, ρ, o, p⟩ := h
  exact ⟨β, G, S, ρ, o, Post.thn (Rl := RpV K T σ) p fun S1 H1 ρ1 v u e1 o1 h1 p1 => Post.lift1 hp o1 h1 p1⟩
theorem tCB_of {g : List D → Option D} {r : List V → Hp → VK → Prop} {fa : Rho → R (List VD)} (hp : PrimN K T r g) (h : rE K T W (opNE g fa) σ H Q) : tCB r (rA K T W fa) σ H Q := by
  obtain ⟨β, G, S, ρ, o, p⟩ := h
  exact ⟨β, G, S, ρ, o, Post.thn (Rl := RpVs K T σ) p fun S1 H1 ρ1 v u e1 o1 h1 p1 => Post.liftN hp o1 h1 p1⟩
end

/-! ### expressions -/
section
variable {X : Cx} {T : Tb} {W : WX} {a b c e : Expr} {es : List Expr} {fa fb fc : Rho → R VD} {fs : Rho → R (List VD)} {ft fu : Rho → R Bool} {pos : Pos}
theorem xe_name (i : Nat) {x : Str} (hN : X.N[i]? = some x := by rfl) (hv : Vis X.env.scope x := by first | exact Or.inl rfl | exact Or.inr (Or.inl rfl) | exact Or.inr (Or.inr rfl)) (hd : (x == ("__debug__" : Str)) = false := by decide)
    (hcd : (x == ("__classdict__" : Str)) = false := by decide) : XE X T W (.Name x pos) (nameE i) := by
  refine (pe_var hN hv hd hcd).impQ fun σ H Q h => ?_
  obtain ⟨β, G, S, ρ, o, p⟩ := h
  unfold nameE at p
  split at p
  · rename_i x q
    obtain ⟨u, e1, r⟩ := o.cel i _ q
    exact ⟨u, e1, p S H u (Same.refl _) o r⟩
  · rename_i x q
    obtain ⟨a, vs, e1, _⟩ := o.cel i _ q
    exact ⟨.ref a, e1, p S H (.ref a) (Same.refl _) o e1⟩
  · rename_i x q
    obtain ⟨a, e1, _⟩ := o.cel i _ q
    exact ⟨.ref a, e1, p S H (.ref a) (Same.refl _) o e1⟩
  · exact p.elim
theorem const_of {K : PySem.W.Frag} {d : D} {v : V} {σ : L2.St} {H : Hp} {Q : VK} (hr : ∀ S, Rp K T S d v) (h : rE K T W (constE d) σ H Q) : Q v H := by
  obtain ⟨β, G, S, ρ, o, p⟩ := h
  exact p S H v (Same.refl _) o (hr S)
theorem xe_int {i : Int} {j : Nat} : XE X T W (.Constant (.int i) j pos) (constE (.int i)) := pe_int.impQ fun _ _ _ h => const_of (K := X.K) (d := .int i) (fun _ => rfl) h
theorem xe_bl {i : Bool} {j : Nat} : XE X T W (.Constant (.bool i) j pos) (constE (.bl i)) := pe_bl.impQ fun _ _ _ h => const_of (K := X.K) (d := .bl i) (fun _ => rfl) h
theorem xe_str {i : Str} {j : Nat} : XE X T W (.Constant (.str i) j pos) (constE (.str i)) := pe_str.impQ fun _ _ _ h => const_of (K := X.K) (d := .str i) (fun _ => rfl) h
theorem xe_non {j : Nat} : XE X T W (.Constant .none j pos) (constE .non) := pe_non.impQ fun _ _ _ h => const_of (K := X.K) (d := .non) (fun _ => rfl) h
/-- a constant of the module -/
theorem xe_glob {x : Str} {d : D} {v : V} {u : Value} (hg : Gl X x) (hm : X.mg x = some u) (r : RelV v u) (hr : ∀ S, Rp X.K T S d v) (hd : (x == ("__debug__" : Str)) = false := by decide) : XE X T W (.Name x pos) (constE d) :=
  (pe_glob hg hm r hd).impQ fun _ _ _ h => const_of hr h
theorem xe_op {op : Operator} {r : R2} {g : D → D → Option D} (ho : OpR X (binaryOp op) r) (hp : Prim2 X.K T r g) (ha : XE X T W a fa) (hb : XE X T W b fb) : XE X T W (.BinOp a op b pos) (op2E g fa fb) :=
  (pe_op ho ha hb).impQ fun _ _ _ h => tOp_of hp h
theorem xe_cmp {op : CmpOp} {r : R2} {g : D → D → Option D} (ho : OpR X (compareOp op) r) (hp : Prim2 X.K T r g) (ha : XE X T W a fa) (hb : XE X T W b fb) (hm : behindInMarks op b = false := by first | exact nomark _ | rfl) : XE X T W (.Compare a [op] [b] pos) (op2E g fa fb) :=
  (pe_cmpR ho ha hb hm).impQ fun _ _ _ h => tOp_of hp h
theorem xe_un {op : UnaryOp} {r : V → Hp → VK → Prop} {g : D → Option D} (ho : UnR X (unaryOp op) r) (hp : Prim1 X.K T r g) (ha : XE X T W a fa) : XE X T W (.UnaryOp op a pos) (op1E g fa) :=
  (pe_un ho ha).impQ fun _ _ _ h => tUn_of hp h
theorem xe_ix {r : R2} {g : D → D → Option D} (ho : IxR X r) (hp : Prim2 X.K T r g) (ha : XE X T W a fa) (hb : XE X T W b fb) (hs : PlainIx b := by exact fun _ _ => rfl) : XE X T W (.Subscript a b pos) (op2E g fa fb) :=
  (pe_ix ho ha hb hs).impQ fun _ _ _ h => tOp_of hp h

/-! ### tests -/
def cmpT (g : D → D → Option D) (fa fb : Rho → R VD) : Rho → R Bool := fun ρ => (op2E g fa fb ρ).bind fun v ρ1 => match v with | .d (.bl k) => .ok k ρ1 | _ => .bad
def valT (fa : Rho → R VD) : Rho → R Bool := fun ρ => (fa ρ).bind fun v ρ1 => match v with | .d (.bl k) => .ok k ρ1 | _ => .bad
theorem valT_of {K : PySem.W.Frag} {t : TE} {σ : L2.St} {H : Hp} {Q : Bool → Hp → Prop} (ht : ∀ Q', rE K T W fa σ H Q' → t σ H Q') (h : rT K T W (valT fa) σ H Q) : t σ H fun x H1 => ∃ k, x = .bl k ∧ Q k H1 := by
  obtain ⟨β, G, S, ρ, o, p⟩ := h
  refine ht _ ⟨β, G, S, ρ, o, Post.thn (Rl := RpV K T σ) p fun S1 H1 ρ1 v u e1 o1 h1 p1 => ?_⟩
  split at p1
  · rename_i k
    exact ⟨k, h1, p1 S1 H1 k (Same.refl _) o1 rfl⟩
  · exact p1.elim
theorem xt_cmp {op : CmpOp} {r : R2} {g : D → D → Option D} (ho : OpR X (compareOp op) r) (hp : Prim2 X.K T r g) (ha : XE X T W a fa) (hb : XE X T W b fb) (hm : behindInMarks op b = false := by first | exact nomark _ | rfl) : XT X T W (.Compare a [op] [b] pos) (valT (op2E g fa fb)) :=
  (pt_cmpR ho ha hb hm).impQ fun σ H Q h => valT_of (t := tOp r (rE X.K T W fa) (rE X.K T W fb)) (fun _ q => tOp_of hp q) h
theorem xt_val (he : XE X T W e fa) (hw : ∀ whole, isTrue e X.env whole = (do let v ← whole; standAt e.pos; holding [v] (truthy v)) := by intro _; rfl) : XT X T W e (valT fa) :=
  (pt_val he hw).impQ fun σ H Q h => valT_of (t := rE X.K T W fa) (fun _ q => q) h
def notT (ft : Rho → R Bool) : Rho → R Bool := fun ρ => (ft ρ).bind fun k ρ1 => .ok (!k) ρ1
def andT (ft fu : Rho → R Bool) : Rho → R Bool := fun ρ => (ft ρ).bind fun k ρ1 => if k then fu ρ1 else .ok false ρ1
def orT (ft fu : Rho → R Bool) : Rho → R Bool := fun ρ => (ft ρ).bind fun k ρ1 => if k then .ok true ρ1 else fu ρ1
theorem xt_not (h : XT X T W a ft) : XT X T W (.UnaryOp .Not a pos) (notT ft) := (pt_not h).impQ fun σ H Q h => by
  obtain ⟨β, G, S, ρ, o, p⟩ := h
  exact ⟨β, G, S, ρ, o, Post.thn (Rl := fun _ (b c : Bool) => b = c) p fun S1 H1 ρ1 v u e1 o1 h1 p1 => by subst h1; exact p1 S1 H1 _ (Same.refl _) o1 rfl⟩
def XW (X : Cx) (T : Tb) (W : WX) (e : Expr) (f : Rho → R Bool) : Prop := PW X e (rT X.K T W f)
theorem _root_.L2.PW.impQ {X : Cx} {e : Expr} {t t' : TT} (h : PW X e t) (i : ∀ σ H Q, t' σ H Q → t σ H Q) : PW X e t' := ⟨fun wh pins s σ H Q I w => h.run wh pins s σ H Q I (i σ H Q w)⟩
theorem XW.xt (h : XW X T W e ft) : XT X T W e ft := L2.PW.pt h
theorem xw_and1 (h : XT X T W a ft) : XW X T W (.BoolOp .And [a] pos) ft := pw_and1 h
theorem xw_or1 (h : XT X T W a ft) : XW X T W (.BoolOp .Or [a] pos) ft := pw_or1 h
theorem xw_and (h : XT X T W a ft) (h2 : XW X T W (.BoolOp .And (b :: es) pos) fu) : XW X T W (.BoolOp .And (a :: b :: es) pos) (andT ft fu) := (pw_and h h2).impQ fun σ H Q h => by
  obtain ⟨β, G, S, ρ, o, p⟩ := h
  refine ⟨β, G, S, ρ, o, Post.thn (Rl := fun _ (b c : Bool) => b = c) p fun S1 H1 ρ1 v u e1 o1 h1 p1 => ?_⟩
  subst h1
  cases v with
  | true => exact iteT ⟨β, G, S1, ρ1, o1, p1⟩
  | false => exact iteF (p1 S1 H1 _ (Same.refl _) o1 rfl)
theorem xw_or (h : XT X T W a ft) (h2 : XW X T W (.BoolOp .Or (b :: es) pos) fu) : XW X T W (.BoolOp .Or (a :: b :: es) pos) (orT ft fu) := (pw_or h h2).impQ fun σ H Q h => by
  obtain ⟨β, G, S, ρ, o, p⟩ := h
  refine ⟨β, G, S, ρ, o, Post.thn (Rl := fun _ (b c : Bool) => b = c) p fun S1 H1 ρ1 v u e1 o1 h1 p1 => ?_⟩
  subst h1
  cases v with
  | true => exact iteT (p1 S1 H1 _ (Same.refl _) o1 rfl)
  | false => exact iteF ⟨β, G, S1, ρ1, o1, p1⟩
/-- .. as values: the left one a truth value -/
def andE (fa fb : Rho → R VD) : Rho → R VD := fun ρ => (fa ρ).bind fun v ρ1 => match v with | .d (.bl true) => fb ρ1 | .d (.bl false) => .ok (.d (.bl false)) ρ1 | _ => .bad
def orE (fa fb : Rho → R VD) : Rho → R VD := fun ρ => (fa ρ).bind fun v ρ1 => match v with | .d (.bl true) => .ok (.d (.bl true)) ρ1 | .d (.bl false) => fb ρ1 | _ => .bad
def notE (fa : Rho → R VD) : Rho → R VD := fun ρ => (fa ρ).bind fun v ρ1 => match v with | .d (.bl k) => .ok (.d (.bl (!k))) ρ1 | _ => .bad
theorem xe_one {op : BoolOp} (h : XE X T W a fa) : XE X T W (.BoolOp op [a] pos) fa := pe_one h
theorem xe_and (h : XE X T W a fa) (h2 : XE X T W (.BoolOp .And (b :: es) pos) fb) : XE X T W (.BoolOp .And (a :: b :: es) pos) (andE fa fb) := (pe_and h h2).impQ fun σ H Q h => by
  obtain ⟨β, G, S, ρ, o, p⟩ := h
  refine ⟨β, G, S, ρ, o, Post.thn (Rl := RpV X.K T σ) p fun S1 H1 ρ1 v u e1 o1 h1 p1 => ?_⟩
  split at p1
  · exact ⟨true, h1, iteT ⟨β, G, S1, ρ1, o1, p1⟩⟩
  · exact ⟨false, h1, iteF (p1 S1 H1 (.bl false) (Same.refl _) o1 rfl)⟩
  · exact p1.elim
theorem xe_or (h : XE X T W a fa) (h2 : XE X T W (.BoolOp .Or (b :: es) pos) fb) : XE X T W (.BoolOp .Or (a :: b :: es) pos) (orE fa fb) := (pe_or h h2).impQ fun σ H Q h => by
  obtain ⟨β, G, S, ρ, o, p⟩ := h
  refine ⟨β, G, S, ρ, o, Post.thn (Rl := RpV X.K T σ) p fun S1 H1 ρ1 v u e1 o1 h1 p1 => ?_⟩
  split at p1
  · exact ⟨true, h1, iteT (p1 S1 H1 (.bl true) (Same.refl _) o1 rfl)⟩
  · exact ⟨false, h1, iteF ⟨β, G, S1, ρ1, o1, p1⟩⟩
  · exact p1.elim
theorem xe_not (h : XE X T W a fa) : XE X T W (.UnaryOp .Not a pos) (notE fa) := (pe_not h).impQ fun σ H Q h => by
  obtain ⟨β, G, S, ρ, o, p⟩ := h
  refine ⟨β, G, S, ρ, o, Post.thn (Rl := RpV X.K T σ) p fun S1 H1 ρ1 v u e1 o1 h1 p1 => ?_⟩
  split at p1
  · rename_i k
    exact ⟨k, h1, p1 S1 H1 (.bl (!k)) (Same.refl _) o1 rfl⟩
  · exact p1.elim
def ifE (ft : Rho → R Bool) (fa fb : Rho → R VD) : Rho → R VD := fun ρ => (ft ρ).bind fun k ρ1 => if k then fa ρ1 else fb ρ1
theorem xe_if (hc : XT X T W c ft) (ha : XE X T W a fa) (hb : XE X T W b fb) : XE X T W (.IfExp c a b pos) (ifE ft fa fb) := (pe_ifExp hc ha hb).impQ fun σ H Q h => by
  obtain ⟨β, G, S, ρ, o, p⟩ := h
  refine ⟨β, G, S, ρ, o, Post.thn (Rl := fun _ (b c : Bool) => b = c) p fun S1 H1 ρ1 v u e1 o1 h1 p1 => ?_⟩
  subst h1
  cases v with
  | true => exact iteT ⟨β, G, S1, ρ1, o1, p1⟩
  | false => exact iteF ⟨β, G, S1, ρ1, o1, p1⟩

/-! ### arguments -/
def nilA : Rho → R (List VD) := fun ρ => .ok [] ρ
def consA (fa : Rho → R VD) (fs : Rho → R (List VD)) : Rho → R (List VD) := fun ρ => (fa ρ).bind fun v ρ1 => (fs ρ1).bind fun vs ρ2 => .ok (v :: vs) ρ2
theorem xa_nil : XA X T W [] nilA := pa_nil.impQ fun σ H Q h => by
  obtain ⟨β, G, S, ρ, o, p⟩ := h
  exact p S H [] (Same.refl _) o rfl
theorem xa_cons (ha : XE X T W e fa) (hs : XA X T W es fs) (hst : starEach (e :: es) X.env = (false, eval e X.env) :: starEach es X.env := by rfl) : XA X T W (e :: es) (consA fa fs) := (pa_cons ha hs hst).impQ fun σ H Q h => by
  obtain ⟨β, G, S, ρ, o, p⟩ := h
  refine ⟨β, G, S, ρ, o, Post.thn (Rl := RpV X.K T σ) p fun S1 H1 ρ1 v u e1 o1 h1 p1 => ?_⟩
  refine ⟨β, G, S1, ρ1, o1, Post.thn (Rl := RpVs X.K T σ) p1 fun S2 H2 ρ2 vs us e2 o2 h2 p2 => ?_⟩
  exact p2 S2 H2 _ (Same.refl _) o2 ⟨u, us, rfl, h1.mono e2, h2⟩
/-- a built-in by its name, a built-in class -/
theorem xe_callB {id : String} {r : List V → Hp → VK → Prop} {g : List D → Option D} {x : Str} {p : Pos} (hc : CallR X (.builtin id) r) (hp : PrimN X.K T r g) (hm : X.mg x = none) (hv : bootBuiltins x = some (.builtin id)) (ha : XA X T W (e :: es) fs) (hg : Gl X x := by rfl) (hn : x ≠ "__name__" := by decide) (hdb : (x == ("__debug__" : Str)) = false := by decide)
    (he : starEach (e :: es) X.env = (false, eval e X.env) :: starEach es X.env := by rfl) (hpl : (backTo pos (starEach es X.env)).any (·.1) = false := by rfl) : XE X T W (.Call (.Name x p) (e :: es) [] pos) (opNE g fs) :=
  (pe_callB hc hg hm hv ha hn hdb he hpl).impQ fun _ _ _ h => tCB_of hp h
theorem xe_callTy {id : String} {r : List V → Hp → VK → Prop} {g : List D → Option D} {x : Str} {p : Pos} (hc : CallR X (.type id) r) (hp : PrimN X.K T r g) (hm : X.mg x = none) (hv : bootBuiltins x = some (.type id)) (ha : XA X T W (e :: es) fs) (hg : Gl X x := by rfl) (hn : x ≠ "__name__" := by decide) (hdb : (x == ("__debug__" : Str)) = false := by decide)
    (he : starEach (e :: es) X.env = (false, eval e X.env) :: starEach es X.env := by rfl) (hpl : (backTo pos (starEach es X.env)).any (·.1) = false := by rfl) : XE X T W (.Call (.Name x p) (e :: es) [] pos) (opNE g fs) :=
  (pe_callTy hc hg hm hv ha hn hdb he hpl).impQ fun _ _ _ h => tCB_of hp h
/-- a method of a built-in type -/
def mtE (g : D → List D → Option D) (fo : Rho → R VD) (fs : Rho → R (List VD)) : Rho → R VD := fun ρ => (fo ρ).bind fun v ρ1 => (fs ρ1).bind fun vs ρ2 => match res v ρ2, resAll vs ρ2 with
  | some x, some xs => (match g x xs with | some d => .ok (.d d) ρ2 | none => .bad)
  | _, _ => .bad
def PrimM (K : PySem.W.Frag) (T : Tb) (r : V → List V → Hp → VK → Prop) (g : D → List D → Option D) : Prop := ∀ S H x xs dx ds d Q, Same S H → RpH K T S H dx x → RpHs K T S H ds xs → g dx ds = some d → Gv K T S H d Q → r x xs H Q
end
end Lq
namespace Lq
open PySem PySem.Spec PyProof.Rows L2
section
variable {K : PySem.W.Frag} {T : Tb} {W : WX} {β : Bt} {G S S' H : Hp} {σ : L2.St} {ρ : Rho}
/-- nobody has p -/
structure Fre (β : Bt) (G S : Hp) (σ : L2.St) (ρ : Rho) (p : Addr) : Prop where
  s : S p = none
  g : G p = none
  b : β ≠ .bx p
  sl : ∀ (i : Nat) (xs : List D), ρ[i]? = some (.m xs) → σ[i]? ≠ some (some (.ref p))
theorem Ok.fre (o : Ok K T β G S σ ρ H) {p : Addr} (h : H p = none) : Fre β G S σ ρ p where
  s := o.sh.free h
  g := o.gh.free h
  b := fun e => by obtain ⟨ns, q⟩ := o.bx p e; rw [h] at q; cases q
  sl := fun i xs e q => by
    obtain ⟨a, vs, e1, e2, _⟩ := o.cel i _ e
    rw [e1] at q; cases q; rw [h] at e2; cases e2
theorem Fre.ext {H' : Hp} {p : Addr} (f : Fre β G S σ ρ p) (e : S' p = none) : Fre β G S' σ ρ p := ⟨e, f.g, f.b, f.sl⟩
theorem Ok.freeze (o : Ok K T β G S σ ρ H) {p : Addr} {us : List V} (f : Fre β G S σ ρ p) (h : H p = some (.lst us)) : Ok K T β G (upd S p (.lst us)) σ ρ H where
  sh := fun b v q => by
    by_cases hb : b = p
    · subst hb; rw [upd_same] at q; rw [← q]; exact h
    · rw [upd_ne hb] at q; exact o.sh b v q
  gh := o.gh
  gs := fun b v q => by rw [upd_ne (ne_of_none q f.g)]; exact o.gs b v q
  gb := fun b q => ⟨(o.gb b q).1, by have hb : b ≠ p := fun z => f.b (by rw [q, z]); rw [upd_ne hb]; exact (o.gb b q).2⟩
  bx := o.bx
  len := o.len
  cel := fun i c q => by
    have h1 := o.cel i c q
    cases c with
    | no => trivial
    | d x => obtain ⟨v, e1, r⟩ := h1; exact ⟨v, e1, Rp.mono (same_new f.s) _ _ r⟩
    | m xs =>
      obtain ⟨a, vs, e1, e2, e3, e4, e5, r⟩ := h1
      refine ⟨a, vs, e1, e2, ?_, e4, e5, Rps.mono (same_new f.s) _ _ r⟩
      rw [upd_ne (fun z => f.sl i xs q (by rw [e1, z]))]; exact e3
    | b ns => exact h1
    | s t =>
      obtain ⟨a, dx, e1, e2, e3, e4, e5, e6, e7, e8⟩ := h1
      exact ⟨a, dx, e1, e2, e3, e4, by rw [upd_ne (fun z => by rw [z, h] at e4; cases e4)]; exact e5, e6, by rw [upd_ne (fun z => by rw [z, h] at e3; cases e3)]; exact e7, e8⟩
  dis := o.dis
theorem get_set_eq {α : Type} {l : List α} {i : Nat} {x y : α} (h : (l.set i x)[i]? = some y) : y = x := by
  by_cases hi : i < l.length
  · rw [List.getElem?_set_self hi] at h; exact (Option.some.inj h).symm
  · rw [List.getElem?_eq_none (by simpa using hi)] at h; cases h
theorem Ok.lt (o : Ok K T β G S σ ρ H) {i : Nat} {c : Cell} (h : ρ[i]? = some c) : i < σ.length := by
  rw [o.len]; exact (List.getElem?_eq_some_iff.mp h).1
theorem Ok.setD (o : Ok K T β G S σ ρ H) {i : Nat} {x : D} {v : V} (r : Rp K T S x v) : Ok K T β G S (σ.set i (some v)) (ρ.set i (.d x)) H where
  sh := o.sh
  gh := o.gh
  gs := o.gs
  gb := o.gb
  bx := o.bx
  len := by rw [List.length_set, List.length_set]; exact o.len
  cel := fun j c q => by
    by_cases hj : j = i
    · subst hj
      have hl : j < ρ.length := by have := (List.getElem?_eq_some_iff.mp q).1; rwa [List.length_set] at this
      have e := get_set_eq q
      subst e
      exact ⟨v, List.getElem?_set_self (by rw [o.len]; exact hl), r⟩
    · rw [List.getElem?_set_ne (Ne.symm hj)] at q ⊢
      exact o.cel j c q
  dis := fun j k xs ys q1 q2 e => by
    have h1 : j ≠ i := fun z => by subst z; cases get_set_eq q1
    have h2 : k ≠ i := fun z => by subst z; cases get_set_eq q2
    rw [List.getElem?_set_ne (Ne.symm h1)] at q1 e
    rw [List.getElem?_set_ne (Ne.symm h2)] at q2 e
    exact o.dis j k xs ys q1 q2 e
theorem Ok.setN (o : Ok K T β G S σ ρ H) {i : Nat} {v : Option V} : Ok K T β G S (σ.set i v) (ρ.set i .no) H where
  sh := o.sh
  gh := o.gh
  gs := o.gs
  gb := o.gb
  bx := o.bx
  len := by rw [List.length_set, List.length_set]; exact o.len
  cel := fun j c q => by
    by_cases hj : j = i
    · subst hj
      have e := get_set_eq q
      subst e
      trivial
    · rw [List.getElem?_set_ne (Ne.symm hj)] at q ⊢
      exact o.cel j c q
  dis := fun j k xs ys q1 q2 e => by
    have h1 : j ≠ i := fun z => by subst z; cases get_set_eq q1
    have h2 : k ≠ i := fun z => by subst z; cases get_set_eq q2
    rw [List.getElem?_set_ne (Ne.symm h1)] at q1 e
    rw [List.getElem?_set_ne (Ne.symm h2)] at q2 e
    exact o.dis j k xs ys q1 q2 e
theorem Ok.setM (o : Ok K T β G S σ ρ H) {i : Nat} {p : Addr} {xs : List D} {vs : List V} (f : Fre β G S σ ρ p) (h : H p = some (.lst vs)) (r : Rps K T S xs vs) : Ok K T β G S (σ.set i (some (.ref p))) (ρ.set i (.m xs)) H where
  sh := o.sh
  gh := o.gh
  gs := o.gs
  gb := o.gb
  bx := o.bx
  len := by rw [List.length_set, List.length_set]; exact o.len
  cel := fun j c q => by
    by_cases hj : j = i
    · subst hj
      have hl : j < ρ.length := by have := (List.getElem?_eq_some_iff.mp q).1; rwa [List.length_set] at this
      have e := get_set_eq q
      subst e
      exact ⟨p, vs, List.getElem?_set_self (by rw [o.len]; exact hl), h, f.s, f.g, f.b, r⟩
    · rw [List.getElem?_set_ne (Ne.symm hj)] at q ⊢
      exact o.cel j c q
  dis := fun j k ys zs q1 q2 e => by
    by_cases h1 : j = i
    · by_cases h2 : k = i
      · rw [h1, h2]
      · exfalso
        subst h1
        have hl : j < σ.length := by have := (List.getElem?_eq_some_iff.mp q1).1; rw [List.length_set] at this; rw [o.len]; exact this
        rw [List.getElem?_set_ne (Ne.symm h2)] at q2 e
        rw [List.getElem?_set_self hl] at e
        exact f.sl k zs q2 e.symm
    · by_cases h2 : k = i
      · exfalso
        subst h2
        have hl : k < σ.length := by have := (List.getElem?_eq_some_iff.mp q2).1; rw [List.length_set] at this; rw [o.len]; exact this
        rw [List.getElem?_set_ne (Ne.symm h1)] at q1 e
        rw [List.getElem?_set_self hl] at e
        exact f.sl j ys q1 e
      · rw [List.getElem?_set_ne (Ne.symm h1)] at q1 e
        rw [List.getElem?_set_ne (Ne.symm h2)] at q2 e
        exact o.dis j k ys zs q1 q2 e

/-! ### a new list -/
def PostF (K : PySem.W.Frag) (T : Tb) (W : WX) (β : Bt) (G S : Hp) (σ : L2.St) (r : R (List D)) (Q : VK) : Prop := match r with
  | .ok ds ρ' => ∀ S' H' p vs, Same S S' → Ok K T β G S' σ ρ' H' → Fre β G S' σ ρ' p → H' p = some (.lst vs) → Rps K T S' ds vs → Q (.ref p) H'
  | .err x ρ' => ∀ S' H' c d, Same S S' → Ok K T β G S' σ ρ' H' → XR K T S' x c d → W c d σ H'
  | .bad => False
def rF (K : PySem.W.Frag) (T : Tb) (W : WX) (f : Rho → R (List D)) : TE := fun σ H Q => ∃ β G S ρ, Ok K T β G S σ ρ H ∧ PostF K T W β G S σ (f ρ) Q
def XF (X : Cx) (T : Tb) (W : WX) (e : Expr) (f : Rho → R (List D)) : Prop := PE X e (rF X.K T W f)
theorem PostF.mono {r : R (List D)} {Q : VK} (h : PostF K T W β G S σ r Q) (e : Same S S') : PostF K T W β G S' σ r Q := by
  cases r with
  | ok a ρ' => exact fun S2 H2 p vs e2 o => h S2 H2 p vs (e.trans e2) o
  | err x ρ' => exact fun S2 H2 c d e2 o => h S2 H2 c d (e.trans e2) o
  | bad => exact h
theorem PostF.thn {α γ : Type} {Rl : Hp → α → γ → Prop} {r : R α} {k : α → Rho → R (List D)} {Q : VK} {Q' : γ → Hp → Prop} (h : PostF K T W β G S σ (r.bind k) Q)
    (f : ∀ S1 H1 ρ1 a u, Same S S1 → Ok K T β G S1 σ ρ1 H1 → Rl S1 a u → PostF K T W β G S1 σ (k a ρ1) Q → Q' u H1) : Post K T W β G S σ Rl r Q' := by
  cases r with
  | ok a ρ' => exact fun S1 H1 u e o q => f S1 H1 ρ' a u e o q (PostF.mono h e)
  | err x ρ' => exact h
  | bad => exact h.elim
theorem PostF.gf {ds : List D} {Q : VK} (h : PostF K T W β G S σ (.ok ds ρ) Q) (o : Ok K T β G S σ ρ H) : Gf K T S H ds Q :=
  fun S' H' p vs e hp sp hv r => h S' H' p vs e.s (o.ext e) ((o.fre hp).ext (H' := H') sp) hv r
def frzE (f : Rho → R (List D)) : Rho → R VD := fun ρ => (f ρ).bind fun ds ρ1 => .ok (.d (.lst ds)) ρ1
theorem XF.xe {X : Cx} {e : Expr} {f : Rho → R (List D)} (h : XF X T W e f) : XE X T W e (frzE f) := L2.PE.impQ h fun σ H Q h => by
  obtain ⟨β, G, S, ρ, o, p⟩ := h
  refine ⟨β, G, S, ρ, o, ?_⟩
  unfold frzE at p
  revert p
  cases f ρ with
  | ok ds ρ1 => exact fun p S' H' q vs e o' fr hv r => p (upd S' q (.lst vs)) H' (.ref q) (e.trans (same_new fr.s)) (o'.freeze fr hv) ⟨q, vs, rfl, upd_same, Rps.mono (same_new fr.s) _ _ r⟩
  | err x ρ1 => exact fun p => p
  | bad => exact fun p => p
/-- data of all the values: no slot's own list among them -/
def datAll : List VD → Option (List D)
  | [] => some []
  | .d x :: vs => (match datAll vs with | some xs => some (x :: xs) | none => none)
  | .sl _ :: _ => none
theorem datAll_rps : ∀ {vs : List VD} {us : List V} {ds : List D}, datAll vs = some ds → RpVs K T σ S vs us → Rps K T S ds us
  | [], _, _, e, h => by simp only [datAll, Option.some.injEq] at e; subst e; exact h
  | .d x :: vs, _, _, e, ⟨u, r, e1, h, hs⟩ => by
    simp only [datAll] at e
    split at e
    · rename_i xs q; cases e; exact ⟨u, r, e1, h, datAll_rps q hs⟩
    · cases e
  | .sl _ :: _, _, _, e, _ => by simp only [datAll] at e; cases e
def fits (n : Nat) : Bool := decide (n ≤ 1000000)
theorem fits_line {n : Nat} (h : fits n = true) : n ≤ sizeLine := Nat.le_trans (of_decide_eq_true h) (by rw [sizeLine_eq]; decide)
theorem fits_lt {n : Nat} (h : fits n = true) : n < sizeLine := Nat.lt_of_le_of_lt (of_decide_eq_true h) (by rw [sizeLine_eq]; decide)
def lstF (fs : Rho → R (List VD)) : Rho → R (List D) := fun ρ => (fs ρ).bind fun vs ρ1 => match datAll vs with | some ds => if fits ds.length then .ok ds ρ1 else .bad | none => .bad
def tupE (fs : Rho → R (List VD)) : Rho → R VD := fun ρ => (fs ρ).bind fun vs ρ1 => match datAll vs with | some ds => if fits ds.length then .ok (.d (.tup ds)) ρ1 else .bad | none => .bad
theorem xf_lst {X : Cx} {es : List Expr} {pos : Pos} {fs : Rho → R (List VD)} (h : XA X T W es fs) : XF X T W (.List es pos) (lstF fs) := (pe_lst h).impQ fun σ H Q h => by
  obtain ⟨β, G, S, ρ, o, p⟩ := h
  refine ⟨β, G, S, ρ, o, PostF.thn (Rl := RpVs X.K T σ) p fun S1 H1 ρ1 vs us e1 o1 h1 p1 => ?_⟩
  split at p1
  · rename_i ds q
    split at p1
    · rename_i hf
      have r := datAll_rps q h1
      exact ⟨by rw [r.len]; exact fits_line hf, fun a ha => (p1.gf o1).new o1.sh r a ha⟩
    · exact p1.elim
  · exact p1.elim
theorem xe_tup {X : Cx} {es : List Expr} {pos : Pos} {k : Nat} {fs : Rho → R (List VD)} (h : XA X T W es fs) : XE X T W (.Tuple es k pos) (tupE fs) := (pe_tup h).impQ fun σ H Q h => by
  obtain ⟨β, G, S, ρ, o, p⟩ := h
  refine ⟨β, G, S, ρ, o, Post.thn (Rl := RpVs X.K T σ) p fun S1 H1 ρ1 vs us e1 o1 h1 p1 => ?_⟩
  split at p1
  · rename_i ds q
    split at p1
    · rename_i hf
      have r := datAll_rps q h1
      exact ⟨by rw [r.len]; exact fits_line hf, fun a ha => (p1.gv o1).newT o1.sh r a ha⟩
    · exact p1.elim
  · exact p1.elim
/-- operations that make a new list -/
def PrimNF (K : PySem.W.Frag) (T : Tb) (r : List V → Hp → VK → Prop) (g : List D → Option (List D)) : Prop := ∀ S H xs ds d Q, Same S H → RpHs K T S H ds xs → g ds = some d → Gf K T S H d Q → r xs H Q
def Prim2F (K : PySem.W.Frag) (T : Tb) (r : R2) (g : D → D → Option (List D)) : Prop := ∀ S H x y dx dy d Q, Same S H → RpH K T S H dx x → RpH K T S H dy y → g dx dy = some d → Gf K T S H d Q → r x y H Q
def opNF (g : List D → Option (List D)) (fs : Rho → R (List VD)) : Rho → R (List D) := fun ρ => (fs ρ).bind fun vs ρ1 => match resAll vs ρ1 with | some xs => (match g xs with | some d => .ok d ρ1 | none => .bad) | none => .bad
def op2F (g : D → D → Option (List D)) (fa fb : Rho → R VD) : Rho → R (List D) := fun ρ => (fa ρ).bind fun v ρ1 => (fb ρ1).bind fun w ρ2 => match res v ρ2, res w ρ2 with | some x, some y => (match g x y with | some d => .ok d ρ2 | none => .bad) | _, _ => .bad
theorem tCBF_of {g : List D → Option (List D)} {r : List V → Hp → VK → Prop} {fa : Rho → R (List VD)} {Q : VK} (hp : PrimNF K T r g) (h : rF K T W (opNF g fa) σ H Q) : tCB r (rA K T W fa) σ H Q := by
  obtain ⟨β, G, S, ρ, o, p⟩ := h
  refine ⟨β, G, S, ρ, o, PostF.thn (Rl := RpVs K T σ) p fun S1 H1 ρ1 v u e1 o1 h1 p1 => ?_⟩
  split at p1
  · rename_i xs e
    split at p1
    · rename_i d e2
      exact hp S1 H1 u xs d Q o1.sh (o1.resAll h1 e) e2 (p1.gf o1)
    · exact p1.elim
  · exact p1.elim
theorem tOpF_of {g : D → D → Option (List D)} {r : R2} {fa fb : Rho → R VD} {Q : VK} (hp : Prim2F K T r g) (h : rF K T W (op2F g fa fb) σ H Q) : tOp r (rE K T W fa) (rE K T W fb) σ H Q := by
  obtain ⟨β, G, S, ρ, o, p⟩ := h
  refine ⟨β, G, S, ρ, o, PostF.thn (Rl := RpV K T σ) p fun S1 H1 ρ1 v u e1 o1 h1 p1 => ?_⟩
  refine ⟨β, G, S1, ρ1, o1, PostF.thn (Rl := RpV K T σ) p1 fun S2 H2 ρ2 w z e2 o2 h2 p2 => ?_⟩
  split at p2
  · rename_i x y q q'
    split at p2
    · rename_i d e2'
      exact hp S2 H2 u z x y d Q o2.sh (o2.res (h1.mono e2) q) (o2.res h2 q') e2' (p2.gf o2)
    · exact p2.elim
  · exact p2.elim
end
section
variable {X : Cx} {T : Tb} {W : WX} {a b c e : Expr} {es : List Expr} {fa fb fc : Rho → R VD} {fs : Rho → R (List VD)} {ft fu : Rho → R Bool} {pos : Pos}
theorem xf_callTy {id : String} {r : List V → Hp → VK → Prop} {g : List D → Option (List D)} {x : Str} {p : Pos} (hc : CallR X (.type id) r) (hp : PrimNF X.K T r g) (hm : X.mg x = none) (hv : bootBuiltins x = some (.type id)) (ha : XA X T W (e :: es) fs) (hg : L2.Gl X x := by rfl) (hn : x ≠ "__name__" := by decide) (hdb : (x == ("__debug__" : Str)) = false := by decide)
    (he : starEach (e :: es) X.env = (false, eval e X.env) :: starEach es X.env := by rfl) (hpl : (backTo pos (starEach es X.env)).any (·.1) = false := by rfl) : XF X T W (.Call (.Name x p) (e :: es) [] pos) (opNF g fs) :=
  (pe_callTy hc hg hm hv ha hn hdb he hpl).impQ fun _ _ _ h => tCBF_of hp h
theorem xf_callB {id : String} {r : List V → Hp → VK → Prop} {g : List D → Option (List D)} {x : Str} {p : Pos} (hc : CallR X (.builtin id) r) (hp : PrimNF X.K T r g) (hm : X.mg x = none) (hv : bootBuiltins x = some (.builtin id)) (ha : XA X T W (e :: es) fs) (hg : L2.Gl X x := by rfl) (hn : x ≠ "__name__" := by decide) (hdb : (x == ("__debug__" : Str)) = false := by decide)
    (he : starEach (e :: es) X.env = (false, eval e X.env) :: starEach es X.env := by rfl) (hpl : (backTo pos (starEach es X.env)).any (·.1) = false := by rfl) : XF X T W (.Call (.Name x p) (e :: es) [] pos) (opNF g fs) :=
  (pe_callB hc hg hm hv ha hn hdb he hpl).impQ fun _ _ _ h => tCBF_of hp h
theorem xf_op {op : Operator} {r : R2} {g : D → D → Option (List D)} (ho : OpR X (binaryOp op) r) (hp : Prim2F X.K T r g) (ha : XE X T W a fa) (hb : XE X T W b fb) : XF X T W (.BinOp a op b pos) (op2F g fa fb) :=
  (pe_op ho ha hb).impQ fun _ _ _ h => tOpF_of hp h
end
end Lq
namespace Lq
open PySem PySem.Spec PyProof.Rows L2
/-! ### statements -/
inductive O where
  | nx (r : Rho)
  | rt (v : VD) (r : Rho)
  | rf (ds : List D) (r : Rho)
  | bk (r : Rho)
  | ct (r : Rho)
  | err (x : Xn) (r : Rho)
  | bad
def PostS (K : PySem.W.Frag) (T : Tb) (W : WX) (β : Bt) (G S : Hp) (r : O) (D : Ends) : Prop := match r with
  | .nx ρ' => ∀ S' σ' H', Same S S' → Ok K T β G S' σ' ρ' H' → D.nx σ' H'
  | .bk ρ' => ∀ S' σ' H', Same S S' → Ok K T β G S' σ' ρ' H' → D.bk σ' H'
  | .ct ρ' => ∀ S' σ' H', Same S S' → Ok K T β G S' σ' ρ' H' → D.ct σ' H'
  | .rt v ρ' => ∀ S' σ' H' u, Same S S' → Ok K T β G S' σ' ρ' H' → RpV K T σ' S' v u → D.rt u H'
  | .rf ds ρ' => ∀ S' σ' H' p vs, Same S S' → Ok K T β G S' σ' ρ' H' → Fre β G S' σ' ρ' p → H' p = some (.lst vs) → Rps K T S' ds vs → D.rt (.ref p) H'
  | .err x ρ' => ∀ S' σ' H' c d, Same S S' → Ok K T β G S' σ' ρ' H' → XR K T S' x c d → W c d σ' H'
  | .bad => False
def rS (K : PySem.W.Frag) (T : Tb) (W : WX) (f : Rho → O) : TS := fun D σ H => ∃ β G S ρ, Ok K T β G S σ ρ H ∧ PostS K T W β G S (f ρ) D
def XS (X : Cx) (T : Tb) (W : WX) (st : Stmt) (f : Rho → O) : Prop := PS X st (rS X.K T W f)
def XB (X : Cx) (T : Tb) (W : WX) (st : List Stmt) (f : Rho → O) : Prop := PSs X st (rS X.K T W f)
def R.thnO {α : Type} (r : R α) (k : α → Rho → O) : O := match r with
  | .ok a q => k a q
  | .err x q => .err x q
  | .bad => .bad
section
variable {K : PySem.W.Frag} {T : Tb} {W : WX} {β : Bt} {G S S' H : Hp} {σ : L2.St} {ρ : Rho} {De : Ends}
theorem PostS.mono {r : O} (h : PostS K T W β G S r De) (e : Same S S') : PostS K T W β G S' r De := by
  cases r with
  | nx ρ' => exact fun S2 s2 H2 e2 o => h S2 s2 H2 (e.trans e2) o
  | bk ρ' => exact fun S2 s2 H2 e2 o => h S2 s2 H2 (e.trans e2) o
  | ct ρ' => exact fun S2 s2 H2 e2 o => h S2 s2 H2 (e.trans e2) o
  | rt v ρ' => exact fun S2 s2 H2 u e2 o => h S2 s2 H2 u (e.trans e2) o
  | rf ds ρ' => exact fun S2 s2 H2 p vs e2 o => h S2 s2 H2 p vs (e.trans e2) o
  | err x ρ' => exact fun S2 s2 H2 c d e2 o => h S2 s2 H2 c d (e.trans e2) o
  | bad => exact h
theorem PostS.thn {α γ : Type} {Rl : Hp → α → γ → Prop} {r : R α} {k : α → Rho → O} {Q' : γ → Hp → Prop} (h : PostS K T W β G S (r.thnO k) De)
    (f : ∀ S1 H1 ρ1 a u, Same S S1 → Ok K T β G S1 σ ρ1 H1 → Rl S1 a u → PostS K T W β G S1 (k a ρ1) De → Q' u H1) : Post K T W β G S σ Rl r Q' := by
  cases r with
  | ok a ρ' => exact fun S1 H1 u e o q => f S1 H1 ρ' a u e o q (PostS.mono h e)
  | err x ρ' => exact fun S1 H1 c d e o q => h S1 σ H1 c d e o q
  | bad => exact h.elim
theorem PostS.thnF {r : R (List D)} {k : List D → Rho → O} {Q' : VK} (h : PostS K T W β G S (r.thnO k) De)
    (f : ∀ S1 H1 ρ1 ds p vs, Same S S1 → Ok K T β G S1 σ ρ1 H1 → Fre β G S1 σ ρ1 p → H1 p = some (.lst vs) → Rps K T S1 ds vs → PostS K T W β G S1 (k ds ρ1) De → Q' (.ref p) H1) : PostF K T W β G S σ r Q' := by
  cases r with
  | ok a ρ' => exact fun S1 H1 p vs e o fr hv q => f S1 H1 ρ' a p vs e o fr hv q (PostS.mono h e)
  | err x ρ' => exact fun S1 H1 c d e o q => h S1 σ H1 c d e o q
  | bad => exact h.elim
end
section
variable {X : Cx} {T : Tb} {W : WX} {a b c e : Expr} {es : List Expr} {fa fb fc : Rho → R VD} {fs : Rho → R (List VD)} {ft fu : Rho → R Bool} {pos : Pos} {st : Stmt} {sts : List Stmt} {g h : Rho → O}
def nextS : Rho → O := fun ρ => .nx ρ
def seqS (g h : Rho → O) : Rho → O := fun ρ => match g ρ with | .nx ρ1 => h ρ1 | r => r
theorem xb_nil : XB X T W [] nextS := pss_nil.impQ fun De σ H q => by
  obtain ⟨β, G, S, ρ, o, p⟩ := q
  exact p S σ H (Same.refl _) o
theorem xb_one (h1 : XS X T W st g) : XB X T W [st] g := pss_one h1
theorem xb_cons (h1 : XS X T W st g) (h2 : XB X T W sts h) : XB X T W (st :: sts) (seqS g h) := (pss_cons h1 h2).impQ fun De σ H q => by
  obtain ⟨β, G, S, ρ, o, p⟩ := q
  refine ⟨β, G, S, ρ, o, ?_⟩
  unfold seqS at p
  revert p
  cases g ρ with
  | nx ρ1 => exact fun p S1 σ1 H1 e o1 => ⟨β, G, S1, ρ1, o1, p.mono e⟩
  | rt v ρ1 => exact fun p => p
  | rf ds ρ1 => exact fun p => p
  | bk ρ1 => exact fun p => p
  | ct ρ1 => exact fun p => p
  | err x ρ1 => exact fun p => p
  | bad => exact fun p => p
theorem xs_pass : XS X T W (.Pass pos) nextS := ps_pass.impQ fun De σ H q => by
  obtain ⟨β, G, S, ρ, o, p⟩ := q
  exact p S σ H (Same.refl _) o
theorem xs_break : XS X T W (.Break pos) (fun ρ => .bk ρ) := ps_break.impQ fun De σ H q => by
  obtain ⟨β, G, S, ρ, o, p⟩ := q
  exact p S σ H (Same.refl _) o
theorem xs_continue : XS X T W (.Continue pos) (fun ρ => .ct ρ) := ps_continue.impQ fun De σ H q => by
  obtain ⟨β, G, S, ρ, o, p⟩ := q
  exact p S σ H (Same.refl _) o
def retS (fa : Rho → R VD) : Rho → O := fun ρ => (fa ρ).thnO fun v ρ1 => .rt v ρ1
theorem xs_ret (he : XE X T W e fa) : XS X T W (.Return (some e) pos) (retS fa) := (ps_ret he).impQ fun De σ H q => by
  obtain ⟨β, G, S, ρ, o, p⟩ := q
  exact ⟨β, G, S, ρ, o, PostS.thn (Rl := RpV X.K T σ) p fun S1 H1 ρ1 v u e1 o1 h1 p1 => p1 S1 σ H1 u (Same.refl _) o1 h1⟩
def retF (f : Rho → R (List D)) : Rho → O := fun ρ => (f ρ).thnO fun ds ρ1 => .rf ds ρ1
theorem xs_retF {f : Rho → R (List D)} (he : XF X T W e f) : XS X T W (.Return (some e) pos) (retF f) := (ps_ret he).impQ fun De σ H q => by
  obtain ⟨β, G, S, ρ, o, p⟩ := q
  exact ⟨β, G, S, ρ, o, PostS.thnF p fun S1 H1 ρ1 ds a vs e1 o1 fr hv h1 p1 => p1 S1 σ H1 a vs (Same.refl _) o1 fr hv h1⟩
theorem xs_retN : XS X T W (.Return none pos) (fun ρ => .rt (.d .non) ρ) := ps_retN.impQ fun De σ H q => by
  obtain ⟨β, G, S, ρ, o, p⟩ := q
  exact p S σ H .non (Same.refl _) o rfl
def dropS (fa : Rho → R VD) : Rho → O := fun ρ => (fa ρ).thnO fun _ ρ1 => .nx ρ1
theorem xs_expr (he : XE X T W e fa) (hs : swapsWith e none pos.line X.env = pure false := by rfl) : XS X T W (.Expr e pos) (dropS fa) := (ps_expr he hs).impQ fun De σ H q => by
  obtain ⟨β, G, S, ρ, o, p⟩ := q
  exact ⟨β, G, S, ρ, o, PostS.thn (Rl := RpV X.K T σ) p fun S1 H1 ρ1 v u e1 o1 h1 p1 => p1 S1 σ H1 (Same.refl _) o1⟩
def ifS (ft : Rho → R Bool) (g h : Rho → O) : Rho → O := fun ρ => (ft ρ).thnO fun k ρ1 => if k then g ρ1 else h ρ1
theorem xs_if {as bs : List Stmt} (hc : XT X T W c ft) (ha : XB X T W as g) (hb : XB X T W bs h) : XS X T W (.If c as bs pos) (ifS ft g h) := (ps_if hc ha hb).impQ fun De σ H q => by
  obtain ⟨β, G, S, ρ, o, p⟩ := q
  refine ⟨β, G, S, ρ, o, PostS.thn (Rl := fun _ (b c : Bool) => b = c) p fun S1 H1 ρ1 v u e1 o1 h1 p1 => ?_⟩
  subst h1
  cases v with
  | true => exact iteT ⟨β, G, S1, ρ1, o1, p1⟩
  | false => exact iteF ⟨β, G, S1, ρ1, o1, p1⟩
/-- x = e: data; a new list of its own -/
def asgS (i : Nat) (fa : Rho → R VD) : Rho → O := fun ρ => (fa ρ).thnO fun v ρ1 => match v with | .d x => .nx (ρ1.set i (.d x)) | .sl _ => .bad
def asgM (i : Nat) (f : Rho → R (List D)) : Rho → O := fun ρ => (f ρ).thnO fun ds ρ1 => .nx (ρ1.set i (.m ds))
theorem xs_set (i : Nat) {x : Str} {pos' : Pos} (hN : X.N.Nodup) (he : XE X T W e fa) (hi : X.N[i]? = some x := by rfl) (hx : Loc X.env.scope x := by first | exact Or.inl rfl | exact Or.inr rfl) (hs : swapsWith e (some (.Name x pos')) pos.line X.env = pure false := by rfl)
    (hf : X.fn x = true ∨ X.env.scope.names.lookup x = some .local := by first | exact .inl rfl | exact .inr rfl) : XS X T W (.Assign [.Name x pos'] e pos) (asgS i fa) := (ps_set hN hi hx he hs hf).impQ fun De σ H q => by
  obtain ⟨β, G, S, ρ, o, p⟩ := q
  refine ⟨β, G, S, ρ, o, PostS.thn (Rl := RpV X.K T σ) p fun S1 H1 ρ1 v u e1 o1 h1 p1 => ?_⟩
  split at p1
  · exact p1 S1 _ H1 (Same.refl _) (o1.setD h1)
  · exact p1.elim
theorem xs_setM (i : Nat) {x : Str} {pos' : Pos} {f : Rho → R (List D)} (hN : X.N.Nodup) (he : XF X T W e f) (hi : X.N[i]? = some x := by rfl) (hx : Loc X.env.scope x := by first | exact Or.inl rfl | exact Or.inr rfl) (hs : swapsWith e (some (.Name x pos')) pos.line X.env = pure false := by rfl)
    (hf : X.fn x = true ∨ X.env.scope.names.lookup x = some .local := by first | exact .inl rfl | exact .inr rfl) : XS X T W (.Assign [.Name x pos'] e pos) (asgM i f) := (ps_set hN hi hx he hs hf).impQ fun De σ H q => by
  obtain ⟨β, G, S, ρ, o, p⟩ := q
  exact ⟨β, G, S, ρ, o, PostS.thnF p fun S1 H1 ρ1 ds a vs e1 o1 fr hv h1 p1 => p1 S1 _ H1 (Same.refl _) (o1.setM fr hv h1)⟩

/-! ### targets -/
/-- what a target does with data -/
def rGt (K : PySem.W.Frag) (T : Tb) (gd : D → Rho → Option Rho) : TG := fun v σ H Q => ∃ β G S ρ x, Ok K T β G S σ ρ H ∧ Rp K T S x v ∧ match gd x ρ with
  | some ρ' => ∀ σ', Ok K T β G S σ' ρ' H → Q σ' H
  | none => False
def XG (X : Cx) (T : Tb) (tg : Expr) (gd : D → Rho → Option Rho) : Prop := PG X tg (rGt X.K T gd)
def nameG (i : Nat) : D → Rho → Option Rho := fun x ρ => some (ρ.set i (.d x))
theorem _root_.L2.PG.impQ {X : Cx} {e : Expr} {t t' : TG} (h : PG X e t) (i : ∀ v σ H Q, t' v σ H Q → t v σ H Q) : PG X e t' := ⟨fun pins s σ H v u Q I r w => h.run pins s σ H v u Q I r (i v σ H Q w)⟩
theorem _root_.L2.PGs.impQ {X : Cx} {e : List Expr} {t t' : TGs} (h : PGs X e t) (i : ∀ v σ H Q, t' v σ H Q → t v σ H Q) : PGs X e t' := ⟨fun pins s σ H v u Q I r w => h.run pins s σ H v u Q I r (i v σ H Q w)⟩
theorem xg_name (i : Nat) {x : Str} (hN : X.N.Nodup) (hi : X.N[i]? = some x := by rfl) (hx : Loc X.env.scope x := by first | exact Or.inl rfl | exact Or.inr rfl) (hf : X.fn x = true ∨ X.env.scope.names.lookup x = some .local := by first | exact .inl rfl | exact .inr rfl) : XG X T (.Name x pos) (nameG i) :=
  (pg_name hN hi hx hf).impQ fun v σ H Q q => by
    obtain ⟨β, G, S, ρ, x, o, r, p⟩ := q
    exact p _ (o.setD r)
def rGts (K : PySem.W.Frag) (T : Tb) (gd : List D → Rho → Option Rho) : TGs := fun vs σ H Q => ∃ β G S ρ xs, Ok K T β G S σ ρ H ∧ Rps K T S xs vs ∧ match gd xs ρ with
  | some ρ' => ∀ σ', Ok K T β G S σ' ρ' H → Q σ' H
  | none => False
def XGs (X : Cx) (T : Tb) (tg : List Expr) (gd : List D → Rho → Option Rho) : Prop := PGs X tg (rGts X.K T gd)
def nilG : List D → Rho → Option Rho := fun xs ρ => match xs with | [] => some ρ | _ => none
def consG (g : D → Rho → Option Rho) (gs : List D → Rho → Option Rho) : List D → Rho → Option Rho := fun xs ρ => match xs with
  | x :: r => (match g x ρ with | some ρ1 => gs r ρ1 | none => none)
  | [] => none
theorem xgs_nil : XGs X T [] nilG := pgs_nil.impQ fun vs σ H Q q => by
  obtain ⟨β, G, S, ρ, xs, o, r, p⟩ := q
  unfold nilG at p
  split at p
  · rename_i ρ' e
    split at e
    · cases e; exact ⟨r, p σ o⟩
    · cases e
  · exact p.elim
theorem xgs_cons {gd : D → Rho → Option Rho} {gds : List D → Rho → Option Rho} (h1 : XG X T e gd) (h2 : XGs X T es gds) (hs : (assignEach (e :: es) X.env).map (·.2) = assign e X.env :: (assignEach es X.env).map (·.2) := by rfl) : XGs X T (e :: es) (consG gd gds) :=
  (pgs_cons h1 h2 hs).impQ fun vs σ H Q q => by
    obtain ⟨β, G, S, ρ, xs, o, r, p⟩ := q
    unfold consG at p
    cases xs with
    | nil => exact p.elim
    | cons x xr =>
      obtain ⟨v, vr, e1, rx, rr⟩ := r
      refine ⟨v, vr, e1, β, G, S, ρ, x, o, rx, ?_⟩
      dsimp only at p
      cases q1 : gd x ρ with
      | none => rw [q1] at p; exact p.elim
      | some ρ1 =>
        rw [q1] at p
        dsimp only at p ⊢
        exact fun σ1 o1 => ⟨β, G, S, ρ1, xr, o1, rr, p⟩
def tupG (n : Nat) (gs : List D → Rho → Option Rho) : D → Rho → Option Rho := fun x ρ => match x with
  | .tup xs => if xs.length = n then gs xs ρ else none
  | .lst xs => if xs.length = n then gs xs ρ else none
  | _ => none
theorem _root_.L2.PG.orQ {X : Cx} {e : Expr} {t t' : TG} (h : PG X e t) (h' : PG X e t') : PG X e (fun v σ H Q => t v σ H Q ∨ t' v σ H Q) := ⟨fun pins s σ H v u Q I r w => by
  rcases w with w | w
  · exact h.run pins s σ H v u Q I r w
  · exact h'.run pins s σ H v u Q I r w⟩
theorem xg_tup {k n : Nat} {gds : List D → Rho → Option Rho} (hc : X.calm = true) (h : XGs X T es gds) (hn : (assignEach es X.env).length = n := by rfl) (hst : (assignEach es X.env).findIdx? (·.1) = none := by rfl) : XG X T (.Tuple es k pos) (tupG n gds) :=
  ((pg_tup hc h hn hst).orQ (pg_unl hc h hn hst)).impQ fun v σ H Q q => by
    obtain ⟨β, G, S, ρ, x, o, r, p⟩ := q
    unfold tupG at p
    cases x with
    | tup xs =>
      obtain ⟨a, vs, e1, q, rr⟩ := r
      dsimp only at p
      by_cases hl : xs.length = n
      · rw [if_pos hl] at p
        exact .inl ⟨a, vs, e1, same_tup o.sh q, rr.len.trans hl, β, G, S, ρ, xs, o, rr, p⟩
      · rw [if_neg hl] at p; exact p.elim
    | lst xs =>
      obtain ⟨a, vs, e1, q, rr⟩ := r
      dsimp only at p
      by_cases hl : xs.length = n
      · rw [if_pos hl] at p
        exact .inr ⟨a, vs, e1, SqL.of (o.sh _ _ q), rr.len.trans hl, β, G, S, ρ, xs, o, rr, p⟩
      · rw [if_neg hl] at p; exact p.elim
    | _ => exact p.elim
/-- target = e -/
def asgG (gd : D → Rho → Option Rho) (fa : Rho → R VD) : Rho → O := fun ρ => (fa ρ).thnO fun v ρ1 => match v with
  | .d x => (match gd x ρ1 with | some ρ2 => .nx ρ2 | none => .bad)
  | .sl _ => .bad
theorem xs_asg {tg : Expr} {gd : D → Rho → Option Rho} (he : XE X T W e fa) (hg : XG X T tg gd) (hs : swapsWithSole [tg] e pos.line X.env = pure false := by rfl) (hw : swappedStores [tg] e X.env = pure none := by rfl)
    (h1 : (assignEach [tg] X.env).map (·.2) = [assign tg X.env] := by rfl) : XS X T W (.Assign [tg] e pos) (asgG gd fa) := (ps_asg he hg hs hw h1).impQ fun De σ H q => by
  obtain ⟨β, G, S, ρ, o, p⟩ := q
  refine ⟨β, G, S, ρ, o, PostS.thn (Rl := RpV X.K T σ) p fun S1 H1 ρ1 v u e1 o1 h1 p1 => ?_⟩
  cases v with
  | sl i => exact p1.elim
  | d x =>
    refine ⟨β, G, S1, ρ1, x, o1, h1, ?_⟩
    dsimp only at p1
    cases q1 : gd x ρ1 with
    | none => rw [q1] at p1; exact p1.elim
    | some ρ2 => rw [q1] at p1; exact fun σ' o' => p1 S1 σ' H1 (Same.refl _) o'

/-! ### what is walked -/
def Wk (K : PySem.W.Frag) (T : Tb) (S : Hp) (ds : List D) (J : It) : Prop := ∀ S1 H1, Same S S1 → Same S1 H1 → ∀ i : Nat,
  (∀ d, ds[i]? = some d → J.go i H1 ∧ ∀ x H2, J.yld i H1 x H2 → ∃ S2, Ext S1 H1 S2 H2 ∧ Rp K T S2 d x) ∧ (i = ds.length → J.stop i H1)
def PostI (K : PySem.W.Frag) (T : Tb) (W : WX) (β : Bt) (G S : Hp) (σ : L2.St) (r : R (List D)) (Q : It → Hp → Prop) : Prop := match r with
  | .ok ds ρ' => ∀ S' H' J, Same S S' → Ok K T β G S' σ ρ' H' → Wk K T S' ds J → Q J H'
  | .err x ρ' => ∀ S' H' c d, Same S S' → Ok K T β G S' σ ρ' H' → XR K T S' x c d → W c d σ H'
  | .bad => False
def rI (K : PySem.W.Frag) (T : Tb) (W : WX) (f : Rho → R (List D)) : TI := fun σ H Q => ∃ β G S ρ, Ok K T β G S σ ρ H ∧ PostI K T W β G S σ (f ρ) Q
def XI (X : Cx) (T : Tb) (W : WX) (tg e : Expr) (f : Rho → R (List D)) : Prop := PI X tg e (rI X.K T W f)
def loopS (body : D → Rho → O) : List D → Rho → O
  | [], ρ => .nx ρ
  | d :: ds, ρ => match body d ρ with
    | .nx ρ1 => loopS body ds ρ1
    | .ct ρ1 => loopS body ds ρ1
    | .bk ρ1 => .nx ρ1
    | r => r
def turnS (gd : D → Rho → Option Rho) (g : Rho → O) : D → Rho → O := fun d ρ => match gd d ρ with
  | some ρ1 => g ρ1
  | none => .bad
def forS (f : Rho → R (List D)) (gd : D → Rho → Option Rho) (g : Rho → O) : Rho → O := fun ρ => (f ρ).thnO fun ds ρ1 => loopS (turnS gd g) ds ρ1
theorem xs_for {tg iter : Expr} {f : Rho → R (List D)} {gd : D → Rho → Option Rho} {body : List Stmt} (hp : PassesOwn (model X.prog X.w) X.A X.env X.xe) (hc : X.calm = true) (hi : XI X T W tg iter f) (hg : XG X T tg gd) (hb : XB X T W body g)
    (hs : ∀ x, foldedSetIterable iter X.env x = pure x := by intro _; rfl) : XS X T W (.For tg iter body [] pos) (forS f gd g) := (ps_for hp hc hi hg hb hs).impQ fun De σ H q => by
  obtain ⟨β, G, S, ρ, o, p⟩ := q
  refine ⟨β, G, S, ρ, o, ?_⟩
  unfold forS at p
  revert p
  cases f ρ with
  | bad => exact fun p => p
  | err x ρ1 => exact fun p S1 H1 c d e o q => p S1 σ H1 c d e o q
  | ok ds ρ1 =>
    intro p S1 H1 J e1 o1 wk
    refine ⟨fun i m σ' H' => m = ds.length - i ∧ i ≤ ds.length ∧ ∃ S2 ρ2, Same S1 S2 ∧ Ok X.K T β G S2 σ' ρ2 H' ∧ PostS X.K T W β G S2 (loopS (turnS gd g) (ds.drop i) ρ2) De,
      ⟨_, rfl, Nat.zero_le _, S1, ρ1, Same.refl _, o1, p.mono e1⟩, ?_⟩
    rintro i m σ2 H2 ⟨rfl, hi2, S2, ρ2, e2, o2, p2⟩
    by_cases hlt : i < ds.length
    · obtain ⟨hgo, hy⟩ := (wk S2 H2 e2 o2.sh i).1 ds[i] (List.getElem?_eq_getElem hlt)
      rw [List.drop_eq_getElem_cons hlt] at p2
      refine .inr ⟨hgo, fun σ' H' => ∃ S3 ρ3, Same S1 S3 ∧ Ok X.K T β G S3 σ' ρ3 H' ∧ PostS X.K T W β G S3 (loopS (turnS gd g) (ds.drop (i + 1)) ρ3) De, ?_, ?_⟩
      · rintro σ' H' ⟨S3, ρ3, e3, o3, p3⟩
        exact ⟨ds.length - (i + 1), by omega, rfl, hlt, S3, ρ3, e3, o3, p3⟩
      · intro x H3 hyx
        obtain ⟨S3, x3, r3⟩ := hy x H3 hyx
        have o3 := o2.ext x3
        refine ⟨β, G, S3, ρ2, ds[i], o3, r3, ?_⟩
        unfold loopS turnS at p2
        cases q1 : gd ds[i] ρ2 with
        | none => rw [q1] at p2; exact p2.elim
        | some ρ3 =>
          rw [q1] at p2
          dsimp only at p2 ⊢
          intro σ3 o4
          refine ⟨β, G, S3, ρ3, o4, ?_⟩
          have p3 := p2.mono x3.s
          revert p3
          cases g ρ3 with
          | nx ρ4 => exact fun p3 S4 σ4 H4 e4 o5 => ⟨S4, ρ4, (e2.trans x3.s).trans e4, o5, p3.mono e4⟩
          | ct ρ4 => exact fun p3 S4 σ4 H4 e4 o5 => ⟨S4, ρ4, (e2.trans x3.s).trans e4, o5, p3.mono e4⟩
          | bk ρ4 => exact fun p3 => p3
          | rt v ρ4 => exact fun p3 => p3
          | rf ds ρ4 => exact fun p3 => p3
          | err x ρ4 => exact fun p3 => p3
          | bad => exact fun p3 => p3
    · have e : i = ds.length := by omega
      subst e
      rw [List.drop_length] at p2
      exact .inl ⟨(wk S2 H2 e2 o2.sh _).2 rfl, p2 S2 σ2 H2 (Same.refl _) o2⟩
end
end Lq
namespace Lq
open PySem PySem.Spec PyProof.Rows L2
/-! ### walks -/
def chars (s : Str) : List D := s.cps.toList.map fun c => D.str ⟨#[c]⟩
def itemsOf : D → Option (List D)
  | .lst xs => some xs
  | .tup xs => some xs
  | .str s => some (chars s)
  | _ => none
section
variable {K : PySem.W.Frag} {T : Tb} {W : WX} {β : Bt} {G S S' H : Hp} {σ : L2.St} {ρ : Rho} {X : Cx} {tg e : Expr} {es : List Expr} {fa : Rho → R VD} {fs : Rho → R (List VD)} {pos : Pos}
theorem PostI.mono {r : R (List D)} {Q : It → Hp → Prop} (h : PostI K T W β G S σ r Q) (e : Same S S') : PostI K T W β G S' σ r Q := by
  cases r with
  | ok a ρ' => exact fun S2 H2 J e2 o => h S2 H2 J (e.trans e2) o
  | err x ρ' => exact fun S2 H2 c d e2 o => h S2 H2 c d (e.trans e2) o
  | bad => exact h
theorem PostI.thn {α γ : Type} {Rl : Hp → α → γ → Prop} {r : R α} {k : α → Rho → R (List D)} {Q : It → Hp → Prop} {Q' : γ → Hp → Prop} (h : PostI K T W β G S σ (r.bind k) Q)
    (f : ∀ S1 H1 ρ1 a u, Same S S1 → Ok K T β G S1 σ ρ1 H1 → Rl S1 a u → PostI K T W β G S1 σ (k a ρ1) Q → Q' u H1) : Post K T W β G S σ Rl r Q' := by
  cases r with
  | ok a ρ' => exact fun S1 H1 u e o q => f S1 H1 ρ' a u e o q (PostI.mono h e)
  | err x ρ' => exact h
  | bad => exact h.elim
/-- a list, a tuple, a text, whichever it is -/
theorem pi_any {l : Expr} {tl : TE} (hl : PE X l tl) : PI X tg l (fun σ H Q => tl σ H fun x H1 => (∃ a, x = .ref a ∧ (∃ xs, SqL X.K H1 a xs) ∧ Q (Itl X.K a) H1) ∨ (∃ a, x = .ref a ∧ (∃ xs, SqT X.K H1 a xs) ∧ Q (Itt X.K a) H1) ∨ (∃ z, x = .str z ∧ Q (Its z) H1)) := by
  refine ⟨fun pins s σ H Q I h => thn (hl.run pins s σ H _ I h) fun v s1 ⟨x, H1, I1, r1, q1⟩ => ?_⟩
  rcases q1 with ⟨a, rfl, ⟨xs, hq⟩, q⟩ | ⟨a, rfl, ⟨xs, hq⟩, q⟩ | ⟨z, rfl, q⟩
  · cases r1
    obtain ⟨its, _, p, _⟩ := I1.list hq
    exact wpAny_pyIter_list p.isList (pi_one (tk := s1.toks) I1 _ (turn_list a _) ⟨_, Heap.get?_push_size _ rfl, rfl, rfl⟩ q)
  · cases r1
    obtain ⟨its, _, p, _⟩ := I1.tuple hq
    exact wpAny_pyIter_tuple (show s1.heap.IsTuple a its.toArray from p) (pi_one (tk := s1.toks) I1 _ (turn_tuple a _) ⟨_, Heap.get?_push_size _ rfl, rfl, rfl⟩ q)
  · obtain ⟨t, rfl⟩ := r1
    cases ha : z.cps.all (· < 128)
    · exact wpAny_pyIter_wide ha (pi_one (tk := s1.toks) I1 _ (turn_str _ z t _ (.inr rfl)) ⟨_, Heap.get?_push_size _ rfl, rfl, rfl⟩ q)
    · exact wpAny_pyIter_ascii ha (pi_one (tk := s1.toks) I1 _ (turn_str _ z t _ (.inl rfl)) ⟨_, Heap.get?_push_size _ rfl, rfl, rfl⟩ q)
theorem rd_lst {a : Addr} {vs : List V} (h : H a = some (.lst vs)) {xs : List V} (q : SqL K H a xs) (ht : ∀ o its n, K.lookup a = some o → o.data = .seq its n → False) : xs = vs := by
  rcases q with (q | ⟨o, q⟩) | ⟨o, its, n, hk, _, _, hd, _⟩
  · rw [h] at q; cases q; rfl
  · rw [h] at q; cases q
  · exact (ht o its n hk hd).elim
theorem wk_str {z : Str} : Wk K T S (chars z) (Its z) := fun S1 H1 e1 e2 i => by
  refine ⟨fun d hd => ?_, fun hl => have hl := Nat.le_of_eq hl.symm; ?_⟩
  · unfold chars at hd
    rw [List.getElem?_map] at hd
    cases q : z.cps.toList[i]? with
    | none => rw [q] at hd; cases hd
    | some c =>
      rw [q] at hd
      have hd' : D.str ⟨#[c]⟩ = d := Option.some.inj hd
      subst hd'
      have hi : i < z.cps.size := by have := (List.getElem?_eq_some_iff.mp q).1; simpa using this
      refine ⟨hi, fun x H2 hy => ?_⟩
      obtain ⟨rfl, c', hc, rfl⟩ := hy
      refine ⟨S1, Ext.refl e2, ?_⟩
      have : c' = c := by
        rw [Array.getElem?_toList] at q
        rw [hc] at q; exact Option.some.inj q
      rw [this]; rfl
  · unfold chars at hl
    show z.cps.size ≤ i
    simpa using hl
/-- a slot's own list becomes plain data -/
theorem Ok.frzSlot (o : Ok K T β G S σ ρ H) {i : Nat} {xs : List D} (h : ρ[i]? = some (.m xs)) : ∃ a vs, σ[i]? = some (some (.ref a)) ∧ H a = some (.lst vs) ∧ S a = none ∧ Rps K T S xs vs ∧ Ok K T β G (upd S a (.lst vs)) σ (ρ.set i (.d (.lst xs))) H := by
  obtain ⟨a, vs, e1, e2, e3, e4, e5, r⟩ := o.cel i _ h
  have hl := o.lt h
  have es : σ.set i (some (.ref a)) = σ := by
    apply List.ext_getElem?
    intro j
    by_cases hj : j = i
    · subst hj; rw [List.getElem?_set_self hl, e1]
    · rw [List.getElem?_set_ne (Ne.symm hj)]
  have o1 := o.setN (i := i) (v := some (.ref a))
  rw [es] at o1
  have fr : Fre β G S σ (ρ.set i .no) a := ⟨e3, e4, e5, fun j ys q z => by
    have hj : j ≠ i := fun e => by subst e; cases get_set_eq q
    rw [List.getElem?_set_ne (Ne.symm hj)] at q
    exact hj (o.dis j i ys xs q h (z.trans e1.symm))⟩
  have o2 := o1.freeze fr e2
  have o3 := o2.setD (i := i) (x := .lst xs) (v := .ref a) ⟨a, vs, rfl, upd_same, Rps.mono (same_new e3) _ _ r⟩
  rw [es, List.set_set] at o3
  exact ⟨a, vs, e1, e2, e3, r, o3⟩
def seqI (fa : Rho → R VD) : Rho → R (List D) := fun ρ => (fa ρ).bind fun v ρ1 => match v with
  | .d x => (match itemsOf x with | some ds => .ok ds ρ1 | none => .bad)
  | .sl i => (match ρ1[i]? with | some (.m xs) => .ok xs (ρ1.set i (.d (.lst xs))) | _ => .bad)
theorem wk_list {a : Addr} {ds : List D} {vs : List V} (h : S a = some (.lst vs)) (r : Rps K T S ds vs) (hinj : ∀ H1 xs, H1 a = some (.lst vs) → SqL K H1 a xs → xs = vs) : Wk K T S ds (Itl K a) := fun S1 H1 e1 e2 i => by
  have h1 : H1 a = some (.lst vs) := e2 _ _ (e1 _ _ h)
  refine ⟨fun d hd => ?_, fun hl => have hl := Nat.le_of_eq hl.symm; ⟨vs, SqL.of h1, by rw [r.len]; exact hl⟩⟩
  obtain ⟨v, hv, rv⟩ := r.get hd
  refine ⟨⟨vs, v, SqL.of h1, hv⟩, fun x H2 hy => ?_⟩
  obtain ⟨rfl, hx⟩ := hy
  have := hx vs (SqL.of h1)
  rw [hv] at this; cases this
  exact ⟨S1, Ext.refl e2, Rp.mono e1 _ _ rv⟩
theorem wk_list' {a : Addr} {ds : List D} {vs : List V} (h : S a = some (.lst vs)) (r : Rps K T S ds vs) : Wk K T S ds (Itl K a) := fun S1 H1 e1 e2 i => by
  have h1 : H1 a = some (.lst vs) := e2 _ _ (e1 _ _ h)
  refine ⟨fun d hd => ?_, fun hl => have hl := Nat.le_of_eq hl.symm; ⟨vs, SqL.of h1, by rw [r.len]; exact hl⟩⟩
  obtain ⟨v, hv, rv⟩ := r.get hd
  refine ⟨⟨vs, v, SqL.of h1, hv⟩, fun x H2 hy => ?_⟩
  obtain ⟨rfl, hx⟩ := hy
  have := hx vs (SqL.of h1)
  rw [hv] at this; cases this
  exact ⟨S1, Ext.refl e2, Rp.mono e1 _ _ rv⟩
theorem wk_tup {a : Addr} {ds : List D} {vs : List V} (h : SqT K S a vs) (r : Rps K T S ds vs) : Wk K T S ds (Itt K a) := fun S1 H1 e1 e2 i => by
  have h1 : SqT K H1 a vs := same_tup e2 (same_tup e1 h)
  refine ⟨fun d hd => ?_, fun hl => have hl := Nat.le_of_eq hl.symm; ⟨vs, h1, by rw [r.len]; exact hl⟩⟩
  obtain ⟨v, hv, rv⟩ := r.get hd
  refine ⟨⟨vs, v, h1, hv⟩, fun x H2 hy => ?_⟩
  obtain ⟨rfl, hx⟩ := hy
  have := hx vs h1
  rw [hv] at this; cases this
  exact ⟨S1, Ext.refl e2, Rp.mono e1 _ _ rv⟩
theorem _root_.L2.PI.impQ {X : Cx} {tg e : Expr} {t t' : TI} (h : PI X tg e t) (i : ∀ σ H Q, t' σ H Q → t σ H Q) : PI X tg e t' := ⟨fun pins s σ H Q I w => h.run pins s σ H Q I (i σ H Q w)⟩
theorem xi_seq (he : XE X T W e fa) : XI X T W tg e (seqI fa) := (pi_any he).impQ fun σ H Q h => by
  obtain ⟨β, G, S, ρ, o, p⟩ := h
  refine ⟨β, G, S, ρ, o, PostI.thn (Rl := RpV X.K T σ) p fun S1 H1 ρ1 v u e1 o1 h1 p1 => ?_⟩
  cases v with
  | d x =>
    dsimp only at p1
    cases x with
    | lst ds =>
      obtain ⟨a, vs, e2, q, r⟩ := h1
      exact .inl ⟨a, e2, ⟨vs, SqL.of (o1.sh _ _ q)⟩, p1 S1 H1 _ (Same.refl _) o1 (wk_list' q r)⟩
    | tup ds =>
      obtain ⟨a, vs, e2, q, r⟩ := h1
      exact .inr (.inl ⟨a, e2, ⟨vs, same_tup o1.sh q⟩, p1 S1 H1 _ (Same.refl _) o1 (wk_tup q r)⟩)
    | str z => exact .inr (.inr ⟨z, h1, p1 S1 H1 _ (Same.refl _) o1 wk_str⟩)
    | _ => exact p1.elim
  | sl i =>
    dsimp only at p1
    split at p1
    · rename_i xs q
      obtain ⟨a, vs, e2, e3, e4, r, o2⟩ := o1.frzSlot q
      have : σ[i]? = some (some u) := h1
      rw [e2] at this; cases this
      exact .inl ⟨a, rfl, ⟨vs, SqL.of e3⟩, p1 _ H1 _ (same_new e4) o2 (wk_list' upd_same (Rps.mono (same_new e4) _ _ r))⟩
    · exact p1.elim
/-- range(n), range(m, n) -/
def rng (lo : Int) (n : Nat) : List D := (List.range n).map fun i => D.int (lo + (i : Nat))
theorem wk_rng {lo : Int} {n : Nat} : Wk K T S (rng lo n) (Itr lo n) := fun S1 H1 e1 e2 i => by
  unfold rng
  refine ⟨fun d hd => ?_, fun hl => have hl := Nat.le_of_eq hl.symm; ?_⟩
  · rw [List.getElem?_map] at hd
    cases q : (List.range n)[i]? with
    | none => rw [q] at hd; cases hd
    | some j =>
      rw [q] at hd
      obtain ⟨h1, h2⟩ := List.getElem?_eq_some_iff.mp q
      rw [List.length_range] at h1
      rw [List.getElem_range] at h2
      subst h2
      cases hd
      refine ⟨h1, fun x H2 hy => ?_⟩
      obtain ⟨rfl, rfl⟩ := hy
      exact ⟨S1, Ext.refl e2, rfl⟩
  · rw [List.length_map, List.length_range] at hl
    exact hl
def okR (i : Int) : Bool := Nat.ble i.natAbs 4611686018427387903
theorem okR_of {i : Int} (h : okR i = true) : -(2 ^ 62) ≤ i ∧ i < 2 ^ 62 := by
  unfold okR at h
  have := Nat.le_of_ble_eq_true h
  omega
def rngI1 (fs : Rho → R (List VD)) : Rho → R (List D) := fun ρ => (fs ρ).bind fun vs ρ1 => match vs with
  | [.d (.int n)] => if okR n then .ok (rng 0 n.toNat) ρ1 else .bad
  | _ => .bad
def rngI2 (fs : Rho → R (List VD)) : Rho → R (List D) := fun ρ => (fs ρ).bind fun vs ρ1 => match vs with
  | [.d (.int m), .d (.int n)] => if okR m && okR n then .ok (rng m (n - m).toNat) ρ1 else .bad
  | _ => .bad
theorem RpVs.one {v : VD} {us : List V} (h : RpVs K T σ S [v] us) : ∃ u, us = [u] ∧ RpV K T σ S v u := by
  obtain ⟨u, r, e1, h1, h2⟩ := h
  rw [show r = [] from h2] at e1
  exact ⟨u, e1, h1⟩
theorem RpVs.two {v w : VD} {us : List V} (h : RpVs K T σ S [v, w] us) : ∃ u z, us = [u, z] ∧ RpV K T σ S v u ∧ RpV K T σ S w z := by
  obtain ⟨u, r, e1, h1, h2⟩ := h
  obtain ⟨z, e2, h3⟩ := h2.one
  rw [e2] at e1
  exact ⟨u, z, e1, h1, h3⟩
theorem xi_range1 {p : Pos} (hm : X.mg "range" = none) (ha : XA X T W [e] fs) (hg : L2.Gl X "range" := by rfl) (hs : starEach [e] X.env = [(false, eval e X.env)] := by rfl) : XI X T W tg (.Call (.Name "range" p) [e] [] pos) (rngI1 fs) := (pi_range1 hg hm ha hs).impQ fun σ H Q h => by
  obtain ⟨β, G, S, ρ, o, p⟩ := h
  refine ⟨β, G, S, ρ, o, PostI.thn (Rl := RpVs X.K T σ) p fun S1 H1 ρ1 v u e1 o1 h1 p1 => ?_⟩
  split at p1
  · rename_i n
    split at p1
    · rename_i hn
      obtain ⟨z, rfl, hz⟩ := h1.one
      have hb := okR_of hn
      exact ⟨n, by rw [show z = .int n from hz], hb.1, hb.2, p1 S1 H1 _ (Same.refl _) o1 wk_rng⟩
    · exact p1.elim
  · exact p1.elim
theorem xi_range2 {p : Pos} {e2 : Expr} (hm : X.mg "range" = none) (ha : XA X T W [e, e2] fs) (hg : L2.Gl X "range" := by rfl) (hs : starEach [e, e2] X.env = [(false, eval e X.env), (false, eval e2 X.env)] := by rfl) (hs2 : starEach [e2] X.env = [(false, eval e2 X.env)] := by rfl) : XI X T W tg (.Call (.Name "range" p) [e, e2] [] pos) (rngI2 fs) := (pi_range2 hg hm ha hs hs2).impQ fun σ H Q h => by
  obtain ⟨β, G, S, ρ, o, p⟩ := h
  refine ⟨β, G, S, ρ, o, PostI.thn (Rl := RpVs X.K T σ) p fun S1 H1 ρ1 v u e1 o1 h1 p1 => ?_⟩
  split at p1
  · rename_i m n
    split at p1
    · rename_i hn
      rw [Bool.and_eq_true] at hn
      obtain ⟨z, y, rfl, hz, hy⟩ := h1.two
      have hb := okR_of hn.1
      have hb2 := okR_of hn.2
      exact ⟨m, n, by rw [show z = .int m from hz, show y = .int n from hy], ⟨hb.1, hb.2, hb2.1, hb2.2⟩, p1 S1 H1 _ (Same.refl _) o1 wk_rng⟩
    · exact p1.elim
  · exact p1.elim
/-- enumerate of a list -/
def enumD (ds : List D) : List D := ds.zipIdx.map fun p => D.tup [.int (p.2 : Nat), p.1]
theorem wk_enum {a : Addr} {ds : List D} {vs : List V} (h : S a = some (.lst vs)) (r : Rps K T S ds vs) : Wk K T S (enumD ds) (Ite K a) := fun S1 H1 e1 e2 i => by
  have h1 : H1 a = some (.lst vs) := e2 _ _ (e1 _ _ h)
  unfold enumD
  refine ⟨fun d hd => ?_, fun hl => have hl := Nat.le_of_eq hl.symm; ⟨vs, SqL.of h1, by rw [r.len]; simpa using hl⟩⟩
  rw [List.getElem?_map] at hd
  cases q : ds.zipIdx[i]? with
  | none => rw [q] at hd; cases hd
  | some p =>
    rw [q] at hd
    rw [List.getElem?_zipIdx] at q
    cases q2 : ds[i]? with
    | none => rw [q2] at q; cases q
    | some d0 =>
      rw [q2] at q
      have hp : (d0, 0 + i) = p := Option.some.inj q
      subst hp
      have hd' : D.tup [.int (((0 + i : Nat)) : Int), d0] = d := Option.some.inj hd
      subst hd'
      obtain ⟨v, hv, rv⟩ := r.get q2
      refine ⟨⟨vs, v, SqL.of h1, hv⟩, fun x H2 hy => ?_⟩
      obtain ⟨t, x0, rfl, ht, rfl, hx⟩ := hy
      have := hx vs (SqL.of h1)
      rw [hv] at this; cases this
      have sn := same_new (o := .tup [.int ((i : Nat) : Int), v]) (e2.free ht)
      refine ⟨upd S1 t (.tup [.int ((i : Nat) : Int), v]), Ext.new e2 ht, t, [.int ((i : Nat) : Int), v], rfl, SqT.of upd_same, _, _, rfl, ?_, _, _, rfl, Rp.mono sn _ _ (Rp.mono e1 _ _ rv), rfl⟩
      show V.int _ = V.int _
      rw [Nat.zero_add]
def enumI (fs : Rho → R (List VD)) : Rho → R (List D) := fun ρ => (fs ρ).bind fun vs ρ1 => match vs with
  | [.d (.lst ds)] => .ok (enumD ds) ρ1
  | [.sl i] => (match ρ1[i]? with | some (.m xs) => .ok (enumD xs) (ρ1.set i (.d (.lst xs))) | _ => .bad)
  | _ => .bad
theorem xi_enum {p tpos : Pos} {elts : List Expr} {kk : Nat} (hm : X.mg "enumerate" = none) (ha : XA X T W [e] fs) (hg : L2.Gl X "enumerate" := by rfl) (hs : starEach [e] X.env = [(false, eval e X.env)] := by rfl) : XI X T W (.Tuple elts kk tpos) (.Call (.Name "enumerate" p) [e] [] pos) (enumI fs) := (pi_enum hg hm ha hs).impQ fun σ H Q h => by
  obtain ⟨β, G, S, ρ, o, p⟩ := h
  refine ⟨β, G, S, ρ, o, PostI.thn (Rl := RpVs X.K T σ) p fun S1 H1 ρ1 v u e1 o1 h1 p1 => ?_⟩
  split at p1
  · rename_i ds
    obtain ⟨z, rfl, a, vs, rfl, q, r⟩ := h1.one
    exact ⟨a, vs, rfl, SqL.of (o1.sh _ _ q), p1 S1 H1 _ (Same.refl _) o1 (wk_enum q r)⟩
  · rename_i i
    split at p1
    · rename_i xs q
      obtain ⟨z, rfl, hz⟩ := h1.one
      obtain ⟨a, vs, e2, e3, e4, r, o2⟩ := o1.frzSlot q
      have : σ[i]? = some (some z) := hz
      rw [e2] at this; cases this
      exact ⟨a, vs, rfl, SqL.of e3, p1 _ H1 _ (same_new e4) o2 (wk_enum upd_same (Rps.mono (same_new e4) _ _ r))⟩
    · exact p1.elim
  · exact p1.elim
/-- zip of two lists, of two tuples -/
def zipD (xs ys : List D) : List D := (xs.zip ys).map fun p => D.tup [p.1, p.2]
theorem zip_get {xs ys : List D} {i : Nat} {d : D} (h : (zipD xs ys)[i]? = some d) : ∃ x y, xs[i]? = some x ∧ ys[i]? = some y ∧ d = .tup [x, y] := by
  unfold zipD at h
  rw [List.getElem?_map] at h
  cases q : (xs.zip ys)[i]? with
  | none => rw [q] at h; cases h
  | some p =>
    rw [q] at h
    obtain ⟨h1, h2⟩ := List.getElem?_zip_eq_some.mp q
    exact ⟨p.1, p.2, h1, h2, (Option.some.inj h).symm⟩
theorem pair_new {S1 H1 : Hp} {t : Addr} {x y : D} {v w : V} (e2 : Same S1 H1) (ht : H1 t = none) (rx : Rp K T S1 x v) (ry : Rp K T S1 y w) : ∃ S2, Ext S1 H1 S2 (upd H1 t (.tup [v, w])) ∧ Rp K T S2 (.tup [x, y]) (.ref t) := by
  have sn := same_new (o := .tup [v, w]) (e2.free ht)
  exact ⟨upd S1 t (.tup [v, w]), Ext.new e2 ht, t, [v, w], rfl, SqT.of upd_same, _, _, rfl, Rp.mono sn _ _ rx, _, _, rfl, Rp.mono sn _ _ ry, rfl⟩
theorem wk_zipL {a b : Addr} {xs ys : List D} {vs ws : List V} (h : S a = some (.lst vs)) (r : Rps K T S xs vs) (h' : S b = some (.lst ws)) (r' : Rps K T S ys ws) : Wk K T S (zipD xs ys) (Itz K a b) := fun S1 H1 e1 e2 i => by
  have h1 : H1 a = some (.lst vs) := e2 _ _ (e1 _ _ h)
  have h2 : H1 b = some (.lst ws) := e2 _ _ (e1 _ _ h')
  refine ⟨fun d hd => ?_, fun hl => have hl := Nat.le_of_eq hl.symm; ⟨vs, ws, SqL.of h1, SqL.of h2, ?_⟩⟩
  · obtain ⟨x, y, q1, q2, rfl⟩ := zip_get hd
    obtain ⟨v, hv, rv⟩ := r.get q1
    obtain ⟨w, hw, rw'⟩ := r'.get q2
    refine ⟨⟨vs, ws, v, w, SqL.of h1, SqL.of h2, hv, hw⟩, fun z H2 hy => ?_⟩
    obtain ⟨t, x1, x2, rfl, ht, rfl, f1, f2⟩ := hy
    have g1 := f1 vs (SqL.of h1)
    have g2 := f2 ws (SqL.of h2)
    rw [hv] at g1; cases g1
    rw [hw] at g2; cases g2
    exact pair_new e2 ht (Rp.mono e1 _ _ rv) (Rp.mono e1 _ _ rw')
  · unfold zipD at hl
    rw [List.length_map, List.length_zip] at hl
    rw [r.len, r'.len]
    omega
theorem wk_zipT {a b : Addr} {xs ys : List D} {vs ws : List V} (h : SqT K S a vs) (r : Rps K T S xs vs) (h' : SqT K S b ws) (r' : Rps K T S ys ws) : Wk K T S (zipD xs ys) (RZ.ItzT K a b) := fun S1 H1 e1 e2 i => by
  have h1 : SqT K H1 a vs := same_tup e2 (same_tup e1 h)
  have h2 : SqT K H1 b ws := same_tup e2 (same_tup e1 h')
  refine ⟨fun d hd => ?_, fun hl => have hl := Nat.le_of_eq hl.symm; ⟨vs, ws, h1, h2, ?_⟩⟩
  · obtain ⟨x, y, q1, q2, rfl⟩ := zip_get hd
    obtain ⟨v, hv, rv⟩ := r.get q1
    obtain ⟨w, hw, rw'⟩ := r'.get q2
    refine ⟨⟨vs, ws, v, w, h1, h2, hv, hw⟩, fun z H2 hy => ?_⟩
    obtain ⟨t, x1, x2, rfl, ht, rfl, f1, f2⟩ := hy
    have g1 := f1 vs h1
    have g2 := f2 ws h2
    rw [hv] at g1; cases g1
    rw [hw] at g2; cases g2
    exact pair_new e2 ht (Rp.mono e1 _ _ rv) (Rp.mono e1 _ _ rw')
  · unfold zipD at hl
    rw [List.length_map, List.length_zip] at hl
    rw [r.len, r'.len]
    omega
def zipI (fs : Rho → R (List VD)) : Rho → R (List D) := fun ρ => (fs ρ).bind fun vs ρ1 => match vs with
  | [.d (.lst xs), .d (.lst ys)] => .ok (zipD xs ys) ρ1
  | [.d (.tup xs), .d (.tup ys)] => .ok (zipD xs ys) ρ1
  | _ => .bad
theorem xi_zip {p tpos : Pos} {e2 : Expr} {elts : List Expr} {kk : Nat} (hm : X.mg "zip" = none) (ha : XA X T W [e, e2] fs) (hg : L2.Gl X "zip" := by rfl) (hs : starEach [e, e2] X.env = (false, eval e X.env) :: starEach [e2] X.env := by rfl) (hpl : (backTo pos (starEach [e2] X.env)).any (·.1) = false := by rfl) : XI X T W (.Tuple elts kk tpos) (.Call (.Name "zip" p) [e, e2] [] pos) (zipI fs) := (RZ.pi_zipA hg hm ha hs hpl).impQ fun σ H Q h => by
  obtain ⟨β, G, S, ρ, o, p⟩ := h
  refine ⟨β, G, S, ρ, o, PostI.thn (Rl := RpVs X.K T σ) p fun S1 H1 ρ1 v u e1 o1 h1 p1 => ?_⟩
  split at p1
  · obtain ⟨z, y, rfl, ⟨a, vs, rfl, q, r⟩, b, ws, rfl, q', r'⟩ := h1.two
    exact ⟨a, b, vs, ws, rfl, .inl ⟨SqL.of (o1.sh _ _ q), SqL.of (o1.sh _ _ q'), p1 S1 H1 _ (Same.refl _) o1 (wk_zipL q r q' r')⟩⟩
  · obtain ⟨z, y, rfl, ⟨a, vs, rfl, q, r⟩, b, ws, rfl, q', r'⟩ := h1.two
    exact ⟨a, b, vs, ws, rfl, .inr ⟨same_tup o1.sh q, same_tup o1.sh q', p1 S1 H1 _ (Same.refl _) o1 (wk_zipT q r q' r')⟩⟩
  · exact p1.elim
end
end Lq
namespace Lq
open PySem PySem.Spec PyProof.Rows L2
/-! ### comprehensions -/
def wipeR (ρ : Rho) : List Nat → Rho
  | [] => ρ
  | v :: vs => (wipeR ρ vs).set v .no
def backR (ρ0 ρ : Rho) : List Nat → Rho
  | [] => ρ
  | v :: vs => (backR ρ0 ρ vs).set v (ρ0.getD v .no)
def plainC : Cell → Bool
  | .no => true
  | .d _ => true
  | _ => false
section
variable {K : PySem.W.Frag} {T : Tb} {W : WX} {β : Bt} {G S S' H : Hp} {σ : L2.St} {ρ : Rho}
theorem wipeR_len (ρ : Rho) : ∀ vs : List Nat, (wipeR ρ vs).length = ρ.length
  | [] => rfl
  | v :: vs => by unfold wipeR; rw [List.length_set, wipeR_len ρ vs]
theorem Ok.wipe (o : Ok K T β G S σ ρ H) : ∀ vs : List Nat, Ok K T β G S (L2.wipe σ vs) (wipeR ρ vs) H
  | [] => o
  | v :: vs => (Ok.wipe o vs).setN
theorem wipe_in {σ : L2.St} : ∀ {vs : List Nat} {v : Nat}, v ∈ vs → v < σ.length → (L2.wipe σ vs)[v]? = some none
  | [], _, h, _ => by cases h
  | w :: vs, v, h, hl => by
    unfold L2.wipe
    by_cases e : w = v
    · subst e; exact List.getElem?_set_self (by rw [wipe_length]; exact hl)
    · rw [List.getElem?_set_ne e]
      exact wipe_in ((List.mem_cons.mp h).resolve_left (fun z => e z.symm)) hl
theorem wipe_out' {σ : L2.St} : ∀ {vs : List Nat} {v : Nat}, v ∉ vs → (L2.wipe σ vs)[v]? = σ[v]?
  | [], _, _ => rfl
  | w :: vs, v, h => by
    unfold L2.wipe
    simp only [List.mem_cons, not_or] at h
    rw [List.getElem?_set_ne (Ne.symm h.1)]
    exact wipe_out' h.2
theorem backR_len (ρ0 ρ : Rho) : ∀ vs : List Nat, (backR ρ0 ρ vs).length = ρ.length
  | [] => rfl
  | v :: vs => by unfold backR; rw [List.length_set, backR_len ρ0 ρ vs]
theorem backR_out {ρ0 ρ : Rho} : ∀ {vs : List Nat} {v : Nat}, v ∉ vs → (backR ρ0 ρ vs)[v]? = ρ[v]?
  | [], _, _ => rfl
  | w :: vs, v, h => by
    unfold backR
    simp only [List.mem_cons, not_or] at h
    rw [List.getElem?_set_ne (Ne.symm h.1)]
    exact backR_out h.2
theorem backR_in {ρ0 ρ : Rho} : ∀ {vs : List Nat} {v : Nat}, v ∈ vs → v < ρ.length → (backR ρ0 ρ vs)[v]? = some (ρ0.getD v .no)
  | [], _, h, _ => by cases h
  | w :: vs, v, h, hl => by
    unfold backR
    by_cases e : w = v
    · subst e; exact List.getElem?_set_self (by rw [backR_len]; exact hl)
    · rw [List.getElem?_set_ne e]
      exact backR_in ((List.mem_cons.mp h).resolve_left (fun z => e z.symm)) hl
/-- behind a comprehension: its own names are as they were -/
theorem Ok.back {ρ0 : Rho} {S0 H0 : Hp} {vs : List Nat} (o0 : Ok K T β G S0 σ ρ0 H0) (o : Ok K T β G S (L2.wipe σ vs) ρ H) (e : Same S0 S) (hp : ∀ v ∈ vs, plainC (ρ0.getD v .no) = true) : Ok K T β G S σ (backR ρ0 ρ vs) H where
  sh := o.sh
  gh := o.gh
  gs := o.gs
  gb := o.gb
  bx := o.bx
  len := by rw [backR_len, ← o.len, wipe_length]
  cel := fun i c q => by
    by_cases hi : i ∈ vs
    · have hl : i < ρ.length := by have := (List.getElem?_eq_some_iff.mp q).1; rwa [backR_len] at this
      rw [backR_in hi hl] at q
      have q' : ρ0.getD i .no = c := Option.some.inj q
      have hpi := hp i hi
      rw [q'] at hpi
      cases c with
      | no => trivial
      | d x =>
        have q2 : ρ0[i]? = some (.d x) := by
          rw [List.getD_eq_getElem?_getD] at q'
          cases z : ρ0[i]? with
          | none => rw [z] at q'; cases q'
          | some y => rw [z] at q'; simp at q'; rw [q']
        obtain ⟨u, e1, r⟩ := o0.cel i _ q2
        exact ⟨u, e1, Rp.mono e _ _ r⟩
      | m xs => cases hpi
      | b ns => cases hpi
      | s t => cases hpi
    · rw [backR_out hi] at q
      have := o.cel i c q
      rw [wipe_out' hi] at this
      exact this
  dis := fun i j xs ys q1 q2 e1 => by
    have k : ∀ i xs, (backR ρ0 ρ vs)[i]? = some (.m xs) → i ∉ vs := fun i xs q hi => by
      have hl : i < ρ.length := by have := (List.getElem?_eq_some_iff.mp q).1; rwa [backR_len] at this
      rw [backR_in hi hl] at q
      have hpi := hp i hi
      rw [Option.some.inj q] at hpi; cases hpi
    have hi := k i xs q1
    have hj := k j ys q2
    rw [backR_out hi] at q1
    rw [backR_out hj] at q2
    exact o.dis i j xs ys q1 q2 (by rw [wipe_out' hi, wipe_out' hj]; exact e1)
/-- a new thing is guarded -/
theorem Ok.guard (o : Ok K T β G S σ ρ H) {p : Addr} {u : HO} (h : H p = none) : Ok K T β (upd G p u) S σ ρ (upd H p u) where
  sh := o.sh.trans (same_new h)
  gh := same_upd2 o.gh
  gs := fun b v q => by
    by_cases hb : b = p
    · subst hb; exact o.sh.free h
    · rw [upd_ne hb] at q; exact o.gs b v q
  gb := fun b q => by
    obtain ⟨ns, hb⟩ := o.bx b q
    rw [upd_ne (ne_of_none hb h)]; exact o.gb b q
  bx := fun b q => by
    obtain ⟨ns, hb⟩ := o.bx b q
    exact ⟨ns, same_new h _ _ hb⟩
  len := o.len
  cel := fun i c q => by
    have h1 := o.cel i c q
    cases c with
    | no => trivial
    | d x => exact h1
    | m xs =>
      obtain ⟨a, vs, e1, e2, e3, e4, e5, r⟩ := h1
      exact ⟨a, vs, e1, same_new h _ _ e2, e3, by rw [upd_ne (ne_of_none e2 h)]; exact e4, e5, r⟩
    | b ns => obtain ⟨a, e1, e2, e3⟩ := h1; exact ⟨a, e1, e2, same_new h _ _ e3⟩
    | s t =>
      obtain ⟨a, dx, e1, e2, e3, e4, e5, e6, e7, e8⟩ := h1
      exact ⟨a, dx, e1, e2, same_new h _ _ e3, same_new h _ _ e4, e5, by rw [upd_ne (ne_of_none e4 h)]; exact e6, e7, by rw [upd_ne (ne_of_none e3 h)]; exact e8⟩
  dis := o.dis
/-- what is guarded is changed -/
theorem Ok.reguard {p : Addr} {u u' : HO} (o : Ok K T β (upd G p u) S σ ρ H) (hg : G p = none) : Ok K T β (upd G p u') S σ ρ (upd H p u') where
  sh := fun b v q => by
    have hb : b ≠ p := fun z => by subst z; rw [o.gs b u upd_same] at q; cases q
    rw [upd_ne hb]; exact o.sh b v q
  gh := fun b v q => by
    by_cases hb : b = p
    · subst hb; rw [upd_same] at q ⊢; exact q
    · rw [upd_ne hb] at q ⊢; exact o.gh b v (by rw [upd_ne hb]; exact q)
  gs := fun b v q => by
    by_cases hb : b = p
    · subst hb; exact o.gs b u upd_same
    · rw [upd_ne hb] at q; exact o.gs b v (by rw [upd_ne hb]; exact q)
  gb := fun b q => by
    have hb : b ≠ p := fun z => by subst z; have := (o.gb b q).1; rw [upd_same] at this; cases this
    rw [upd_ne hb]; have := o.gb b q; rw [upd_ne hb] at this; exact this
  bx := fun b q => by
    have hb : b ≠ p := fun z => by subst z; have := (o.gb b q).1; rw [upd_same] at this; cases this
    rw [upd_ne hb]; exact o.bx b q
  len := o.len
  cel := fun i c q => by
    have h1 := o.cel i c q
    cases c with
    | no => trivial
    | d x => exact h1
    | m xs =>
      obtain ⟨a, vs, e1, e2, e3, e4, e5, r⟩ := h1
      have hb : a ≠ p := fun z => by subst z; rw [upd_same] at e4; cases e4
      exact ⟨a, vs, e1, by rw [upd_ne hb]; exact e2, e3, by rw [upd_ne hb] at e4 ⊢; exact e4, e5, r⟩
    | b ns =>
      obtain ⟨a, e1, e2, e3⟩ := h1
      have hb : a ≠ p := fun z => by subst z; have := (o.gb a e2).1; rw [upd_same] at this; cases this
      exact ⟨a, e1, e2, by rw [upd_ne hb]; exact e3⟩
    | s t =>
      obtain ⟨a, dx, e1, e2, e3, e4, e5, e6, e7, e8⟩ := h1
      have hb : a ≠ p := fun z => by subst z; rw [upd_same] at e8; cases e8
      have hd : dx ≠ p := fun z => by subst z; rw [upd_same] at e6; cases e6
      exact ⟨a, dx, e1, e2, by rw [upd_ne hb]; exact e3, by rw [upd_ne hd]; exact e4, e5, by rw [upd_ne hd] at e6 ⊢; exact e6, e7, by rw [upd_ne hb] at e8 ⊢; exact e8⟩
  dis := o.dis
theorem Ok.unguard {p : Addr} {u : HO} (o : Ok K T β (upd G p u) S σ ρ H) (hg : G p = none) : Ok K T β G S σ ρ H ∧ Fre β G S σ ρ p ∧ H p = some u := by
  refine ⟨⟨o.sh, (same_new hg).trans o.gh, fun b v q => o.gs b v (same_new hg b v q), fun b q => ?_, o.bx, o.len, fun i c q => ?_, o.dis⟩, ⟨o.gs p u upd_same, hg, fun e => ?_, fun i xs q z => ?_⟩, o.gh p u upd_same⟩
  · refine ⟨?_, (o.gb b q).2⟩
    have hb : b ≠ p := fun z => by subst z; have := (o.gb b q).1; rw [upd_same] at this; cases this
    have := (o.gb b q).1; rw [upd_ne hb] at this; exact this
  · have h1 := o.cel i c q
    cases c with
    | no => trivial
    | d x => exact h1
    | m xs =>
      obtain ⟨a, vs, e1, e2, e3, e4, e5, r⟩ := h1
      have hb : a ≠ p := fun z => by subst z; rw [upd_same] at e4; cases e4
      exact ⟨a, vs, e1, e2, e3, by rw [upd_ne hb] at e4; exact e4, e5, r⟩
    | b ns => exact h1
    | s t =>
      obtain ⟨a, dx, e1, e2, e3, e4, e5, e6, e7, e8⟩ := h1
      have hb : a ≠ p := fun z => by subst z; rw [upd_same] at e8; cases e8
      have hd : dx ≠ p := fun z => by subst z; rw [upd_same] at e6; cases e6
      exact ⟨a, dx, e1, e2, e3, e4, e5, by rw [upd_ne hd] at e6; exact e6, e7, by rw [upd_ne hb] at e8; exact e8⟩
  · have := (o.gb p e).1; rw [upd_same] at this; cases this
  · obtain ⟨a, vs, e1, e2, e3, e4, e5, r⟩ := o.cel i _ q
    rw [e1] at z; cases z; rw [upd_same] at e4; cases e4
end
/-- one turn: the target, the test, the element -/
def compTurn (gd : D → Rho → Option Rho) (ft : Rho → R Bool) (fe : Rho → R VD) (acc : List D) (d : D) (ρ : Rho) : R (List D) := match gd d ρ with
  | some ρ1 => (ft ρ1).bind fun k ρ2 => if k then ((fe ρ2).bind fun v ρ3 => match v with | .d y => if fits (acc.length + 1) then .ok (acc ++ [y]) ρ3 else .bad | .sl _ => .bad) else .ok acc ρ2
  | none => .bad
def compLoop (vs : List Nat) (gd : D → Rho → Option Rho) (ft : Rho → R Bool) (fe : Rho → R VD) : List D → List D → Rho → R (List D)
  | acc, [], ρ => .ok acc ρ
  | acc, d :: ds, ρ => match compTurn gd ft fe acc d ρ with
    | .ok acc1 ρ1 => compLoop vs gd ft fe acc1 ds (wipeR ρ1 vs)
    | _ => .bad
def compF (vs : List Nat) (fi : Rho → R (List D)) (gd : D → Rho → Option Rho) (ft : Rho → R Bool) (fe : Rho → R VD) : Rho → R (List D) := fun ρ => (fi ρ).bind fun ds ρ1 =>
  if vs.all (fun v => plainC (ρ1.getD v .no)) then (match compLoop vs gd ft fe [] ds (wipeR ρ1 vs) with
    | .ok acc ρ2 => .ok acc (backR ρ1 ρ2 vs)
    | _ => .bad) else .bad
/-- which slots a target sets: only those of vs -/
def Own (vs : List Nat) (gd : D → Rho → Option Rho) : Prop := True
def W0 : WX := fun _ _ _ _ => False
/-- a target that sets nothing but the slots vs, told of the slots themselves -/
def rGo (K : PySem.W.Frag) (T : Tb) (vs : List Nat) (gd : D → Rho → Option Rho) : TG := fun v σ H Q => ∃ β G S ρ x, Ok K T β G S σ ρ H ∧ Rp K T S x v ∧ match gd x ρ with
  | some ρ' => ∀ σ', Ok K T β G S σ' ρ' H → L2.wipe σ' vs = L2.wipe σ vs → Q σ' H
  | none => False
def XGo (X : Cx) (T : Tb) (vs : List Nat) (tg : Expr) (gd : D → Rho → Option Rho) : Prop := PG X tg (rGo X.K T vs gd)
theorem wipe_set {σ : L2.St} {i : Nat} {v : Option V} : ∀ {vs : List Nat}, i ∈ vs → L2.wipe (σ.set i v) vs = L2.wipe σ vs := fun {vs} hi => by
  apply List.ext_getElem?
  intro j
  by_cases hj : j ∈ vs
  · by_cases hl : j < σ.length
    · rw [wipe_in hj hl, wipe_in hj (by rw [List.length_set]; exact hl)]
    · rw [List.getElem?_eq_none (by rw [wipe_length, List.length_set]; omega), List.getElem?_eq_none (by rw [wipe_length]; omega)]
  · rw [wipe_out' hj, wipe_out' hj, List.getElem?_set_ne (fun z => hj (by rw [← z]; exact hi))]
section
variable {X : Cx} {T : Tb} {W : WX} {e elt tg iter : Expr} {es ifs : List Expr} {fi : Rho → R (List D)} {gd : D → Rho → Option Rho} {ft : Rho → R Bool} {fe : Rho → R VD} {pos : Pos} {vs : List Nat}
theorem xgo_name (i : Nat) {x : Str} (hN : X.N.Nodup) (hv : i ∈ vs := by decide) (hi : X.N[i]? = some x := by rfl) (hx : Loc X.env.scope x := by first | exact Or.inl rfl | exact Or.inr rfl) (hf : X.fn x = true ∨ X.env.scope.names.lookup x = some .local := by first | exact .inl rfl | exact .inr rfl) : XGo X T vs (.Name x pos) (nameG i) :=
  (pg_name hN hi hx hf).impQ fun v σ H Q q => by
    obtain ⟨β, G, S, ρ, x, o, r, p⟩ := q
    exact p _ (o.setD r) (wipe_set hv)
def rGos (K : PySem.W.Frag) (T : Tb) (vs : List Nat) (gd : List D → Rho → Option Rho) : TGs := fun us σ H Q => ∃ β G S ρ xs, Ok K T β G S σ ρ H ∧ Rps K T S xs us ∧ match gd xs ρ with
  | some ρ' => ∀ σ', Ok K T β G S σ' ρ' H → L2.wipe σ' vs = L2.wipe σ vs → Q σ' H
  | none => False
def XGos (X : Cx) (T : Tb) (vs : List Nat) (tg : List Expr) (gd : List D → Rho → Option Rho) : Prop := PGs X tg (rGos X.K T vs gd)
theorem xgos_nil : XGos X T vs [] nilG := pgs_nil.impQ fun us σ H Q q => by
  obtain ⟨β, G, S, ρ, xs, o, r, p⟩ := q
  unfold nilG at p
  split at p
  · rename_i ρ' e
    split at e
    · cases e; exact ⟨r, p σ o rfl⟩
    · cases e
  · exact p.elim
theorem xgos_cons {gds : List D → Rho → Option Rho} (h1 : XGo X T vs e gd) (h2 : XGos X T vs es gds) (hs : (assignEach (e :: es) X.env).map (·.2) = assign e X.env :: (assignEach es X.env).map (·.2) := by rfl) : XGos X T vs (e :: es) (consG gd gds) :=
  (pgs_cons h1 h2 hs).impQ fun us σ H Q q => by
    obtain ⟨β, G, S, ρ, xs, o, r, p⟩ := q
    unfold consG at p
    cases xs with
    | nil => exact p.elim
    | cons x xr =>
      obtain ⟨v, vr, e1, rx, rr⟩ := r
      refine ⟨v, vr, e1, β, G, S, ρ, x, o, rx, ?_⟩
      dsimp only at p
      cases q1 : gd x ρ with
      | none => rw [q1] at p; exact p.elim
      | some ρ1 =>
        rw [q1] at p
        dsimp only at p ⊢
        refine fun σ1 o1 ew => ⟨β, G, S, ρ1, xr, o1, rr, ?_⟩
        cases q2 : gds xr ρ1 with
        | none => rw [q2] at p; exact p.elim
        | some ρ2 => rw [q2] at p; exact fun σ2 o2 ew2 => p σ2 o2 (ew2.trans ew)
theorem xgo_tup {k n : Nat} {gds : List D → Rho → Option Rho} (hc : X.calm = true) (h : XGos X T vs es gds) (hn : (assignEach es X.env).length = n := by rfl) (hst : (assignEach es X.env).findIdx? (·.1) = none := by rfl) : XGo X T vs (.Tuple es k pos) (tupG n gds) :=
  ((pg_tup hc h hn hst).orQ (pg_unl hc h hn hst)).impQ fun v σ H Q q => by
    obtain ⟨β, G, S, ρ, x, o, r, p⟩ := q
    unfold tupG at p
    cases x with
    | tup xs =>
      obtain ⟨a, us, e1, q, rr⟩ := r
      dsimp only at p
      by_cases hl : xs.length = n
      · rw [if_pos hl] at p
        exact .inl ⟨a, us, e1, same_tup o.sh q, rr.len.trans hl, β, G, S, ρ, xs, o, rr, p⟩
      · rw [if_neg hl] at p; exact p.elim
    | lst xs =>
      obtain ⟨a, us, e1, q, rr⟩ := r
      dsimp only at p
      by_cases hl : xs.length = n
      · rw [if_pos hl] at p
        exact .inr ⟨a, us, e1, SqL.of (o.sh _ _ q), rr.len.trans hl, β, G, S, ρ, xs, o, rr, p⟩
      · rw [if_neg hl] at p; exact p.elim
    | _ => exact p.elim
def XTs (X : Cx) (T : Tb) (W : WX) (ifs : List Expr) (f : Rho → R Bool) : Prop := PTs X ifs (rT X.K T W f)
def yesT : Rho → R Bool := fun ρ => .ok true ρ
theorem xts_nil : XTs X T W [] yesT := ⟨fun pins s σ H Q I h => pts_nil.run pins s σ H Q I (by
  obtain ⟨β, G, S, ρ, o, p⟩ := h
  exact p S H true (Same.refl _) o rfl)⟩
theorem xts_one (h : XT X T W e ft) : XTs X T W [e] ft := pts_one h
theorem tLc_of {K : PySem.W.Frag} {σ : L2.St} {H : Hp} {Q : VK} (h : rF K T W (compF vs fi gd ft fe) σ H Q) : tLc (rI K T W fi) (rGo K T vs gd) (rT K T W0 ft) (rE K T W0 fe) vs σ H Q := by
  obtain ⟨β, G, S, ρ, o, p⟩ := h
  refine ⟨β, G, S, ρ, o, ?_⟩
  unfold compF at p
  revert p
  cases fi ρ with
  | bad => exact fun p => p
  | err x ρ1 => exact fun p => p
  | ok ds ρ1 =>
    intro p S1 H1 J e1 o1 wk p0 hp0
    dsimp only [R.bind] at p
    split at p
    case isFalse => exact p.elim
    case isTrue hpl =>
    have hpl' : ∀ v ∈ vs, plainC (ρ1.getD v .no) = true := fun v hv => List.all_eq_true.mp hpl v hv
    have hG0 : G p0 = none := o1.gh.free hp0
    refine ⟨fun i m H' => m = ds.length - i ∧ i ≤ ds.length ∧ ∃ S2 ρ2 acc us, Same S1 S2 ∧ Ok K T β (upd G p0 (.lst us)) S2 (L2.wipe σ vs) ρ2 H' ∧ Rps K T S2 acc us ∧
        (match compLoop vs gd ft fe acc (ds.drop i) ρ2 with | .ok a ρe => PostF K T W β G S1 σ (.ok a (backR ρ1 ρe vs)) Q | _ => False),
      ⟨_, rfl, Nat.zero_le _, S1, wipeR ρ1 vs, [], [], Same.refl _, (o1.wipe vs).guard hp0, rfl, ?_⟩, ?_⟩
    · rw [List.drop_zero]
      revert p
      cases compLoop vs gd ft fe [] ds (wipeR ρ1 vs) with
      | ok a ρe => exact fun p => PostF.mono p e1
      | err x ρe => exact fun p => p
      | bad => exact fun p => p
    rintro i m H2 ⟨rfl, hi2, S2, ρ2, acc, us, e2, o2, ra, p2⟩
    by_cases hlt : i < ds.length
    · obtain ⟨hgo, hy⟩ := (wk S2 H2 e2 o2.sh i).1 ds[i] (List.getElem?_eq_getElem hlt)
      rw [List.drop_eq_getElem_cons hlt] at p2
      refine .inr ⟨hgo, fun H' => ∃ S3 ρ3 acc us, Same S1 S3 ∧ Ok K T β (upd G p0 (.lst us)) S3 (L2.wipe σ vs) ρ3 H' ∧ Rps K T S3 acc us ∧
        (match compLoop vs gd ft fe acc (ds.drop (i + 1)) ρ3 with | .ok a ρe => PostF K T W β G S1 σ (.ok a (backR ρ1 ρe vs)) Q | _ => False), ?_, ?_⟩
      · rintro H' ⟨S3, ρ3, acc3, us3, e3, o3, r3, p3⟩
        exact ⟨ds.length - (i + 1), by omega, rfl, hlt, S3, ρ3, acc3, us3, e3, o3, r3, p3⟩
      · intro x H3 hyx
        obtain ⟨S3, x3, r3⟩ := hy x H3 hyx
        have o3 := o2.ext x3
        refine ⟨β, _, S3, ρ2, ds[i], o3, r3, ?_⟩
        unfold compLoop compTurn at p2
        cases q1 : gd ds[i] ρ2 with
        | none => rw [q1] at p2; exact p2.elim
        | some ρ3 =>
          rw [q1] at p2
          dsimp only at p2 ⊢
          intro σ3 o4 ew
          have ew' : L2.wipe σ3 vs = L2.wipe σ vs := by
            rw [ew]
            apply List.ext_getElem?
            intro j
            by_cases hj : j ∈ vs
            · by_cases hl : j < σ.length
              · rw [wipe_in hj hl, wipe_in hj (by rw [wipe_length]; exact hl)]
              · rw [List.getElem?_eq_none (by rw [wipe_length, wipe_length]; omega), List.getElem?_eq_none (by rw [wipe_length]; omega)]
            · rw [wipe_out' hj]
          refine ⟨ew', β, _, S3, ρ3, o4, ?_⟩
          revert p2
          cases ft ρ3 with
          | bad => exact fun p2 => p2
          | err x ρ4 => exact fun p2 => p2.elim
          | ok k ρ4 =>
            intro p2 S4 H4 kk e4 o5 hk
            subst hk
            dsimp only [R.bind] at p2
            cases k with
            | false =>
              refine iteF ⟨S4, wipeR ρ4 vs, acc, us, (e2.trans x3.s).trans e4, ?_, Rps.mono (x3.s.trans e4) _ _ ra, p2⟩
              have := o5.wipe vs
              rw [ew'] at this; exact this
            | true =>
              refine iteT ⟨β, _, S4, ρ4, o5, ?_⟩
              rw [if_pos rfl] at p2
              revert p2
              cases fe ρ4 with
              | bad => exact fun p2 => p2
              | err x ρ5 => exact fun p2 => p2.elim
              | ok v ρ5 =>
                intro p2 S5 H5 u e5 o6 hv
                dsimp only [R.bind] at p2
                cases v with
                | sl j => exact p2.elim
                | d y =>
                  dsimp only at p2
                  by_cases hfit : fits (acc.length + 1) = true
                  case neg => rw [if_neg hfit] at p2; exact p2.elim
                  rw [if_pos hfit] at p2
                  have hH : H5 p0 = some (.lst us) := o6.gh p0 _ upd_same
                  have rall := Rps.mono (x3.s.trans (e4.trans e5)) _ _ ra
                  refine ⟨us, hH, ?_, S5, wipeR ρ5 vs, acc ++ [y], us ++ [u], ((e2.trans x3.s).trans e4).trans e5, ?_, rall.append (Rps.one hv), p2⟩
                  · rw [rall.len]; exact Nat.lt_of_succ_le (fits_line hfit)
                  · have o7 := (o6.reguard (u' := .lst (us ++ [u])) hG0).wipe vs
                    rw [ew'] at o7; exact o7
    · have e : i = ds.length := by omega
      subst e
      rw [List.drop_length] at p2
      refine .inl ⟨(wk S2 H2 e2 o2.sh _).2 rfl, ?_⟩
      obtain ⟨o3, fr, hv⟩ := o2.unguard hG0
      have ob := o1.back o3 e2 hpl'
      refine p2 S2 H2 p0 us e2 ob ⟨fr.s, fr.g, fr.b, fun j xs q z => ?_⟩ hv ra
      by_cases hj : j ∈ vs
      · have hl : j < ρ2.length := by have := (List.getElem?_eq_some_iff.mp q).1; rwa [backR_len] at this
        rw [backR_in hj hl] at q
        have := hpl' j hj
        rw [Option.some.inj q] at this; cases this
      · rw [backR_out hj] at q
        exact fr.sl j xs q (by rw [wipe_out' hj]; exact z)
end
end Lq
namespace Lq
open PySem PySem.Spec PyProof.Rows L2
section
variable {X : Cx} {T : Tb} {W : WX} {e elt tg iter : Expr} {es ifs : List Expr} {fi : Rho → R (List D)} {gd : D → Rho → Option Rho} {ft : Rho → R Bool} {fe : Rho → R VD} {pos : Pos} {own : List (Str × Nat)} {scope : Scope}
theorem xf_lc (hc : X.calm = true) (hN : X.N.Nodup) (hi : XI X T W tg iter fi) (ok : BlkOk X.N X.env.scope scope own)
    (hg : ∀ (s : Shared) (H : Hp) (C : Addr) (cl : List (Str × Addr)) (fp : List Addr), XGo (X.blk s H scope (compEnvC scope cl C X.env) fp) T (own.map (·.2)) tg gd)
    (ht : ∀ (s : Shared) (H : Hp) (C : Addr) (cl : List (Str × Addr)) (fp : List Addr), XTs (X.blk s H scope (compEnvC scope cl C X.env) fp) T W0 ifs ft)
    (he : ∀ (s : Shared) (H : Hp) (C : Addr) (cl : List (Str × Addr)) (fp : List Addr), XE (X.blk s H scope (compEnvC scope cl C X.env) fp) T W0 elt fe) (hs : ∀ x, foldedSetIterable iter X.env x = pure x := by intro _; rfl) :
    XF X T W (.ListComp elt [⟨tg, iter, ifs, 0⟩] scope pos) (compF (own.map (·.2)) fi gd ft fe) :=
  (pe_lc (g := rGo X.K T (own.map (fun p : Str × Nat => p.2)) gd) (tt := rT X.K T W0 ft) (te := rE X.K T W0 fe) hc hN hi ok hg ht he hs).impQ fun σ H Q h => tLc_of h
/-- y = [..] -/
theorem xs_setLc (i : Nat) {y : Str} {py spos : Pos} (hc : X.calm = true) (hN : X.N.Nodup) (hi : XI X T W tg iter fi) (ok : BlkOk X.N X.env.scope scope own)
    (hg : ∀ (s : Shared) (H : Hp) (C : Addr) (cl : List (Str × Addr)) (fp : List Addr), XGo (X.blk s H scope (compEnvC scope cl C X.env) fp) T (own.map (·.2)) tg gd)
    (ht : ∀ (s : Shared) (H : Hp) (C : Addr) (cl : List (Str × Addr)) (fp : List Addr), XTs (X.blk s H scope (compEnvC scope cl C X.env) fp) T W0 ifs ft)
    (he : ∀ (s : Shared) (H : Hp) (C : Addr) (cl : List (Str × Addr)) (fp : List Addr), XE (X.blk s H scope (compEnvC scope cl C X.env) fp) T W0 elt fe)
    (hsw : swapsWith (.ListComp elt [⟨tg, iter, ifs, 0⟩] scope pos) (some (.Name y py)) spos.line X.env = pure true)
    (hy : X.N[i]? = some y := by rfl) (hyl : X.env.scope.names.lookup y = some .local := by rfl) (hs : ∀ x, foldedSetIterable iter X.env x = pure x := by intro _; rfl) :
    XS X T W (.Assign [.Name y py] (.ListComp elt [⟨tg, iter, ifs, 0⟩] scope pos) spos) (asgS i (frzE (compF (own.map (·.2)) fi gd ft fe))) :=
  (ps_setLc (g := rGo X.K T (own.map (fun p : Str × Nat => p.2)) gd) (tt := rT X.K T W0 ft) (te := rE X.K T W0 fe) hc hN hy hyl hsw hi ok hg ht he hs).impQ fun De σ H q => by
    obtain ⟨β, G, S, ρ, o, p⟩ := q
    refine tLc_of ⟨β, G, S, ρ, o, ?_⟩
    unfold asgS frzE at p
    revert p
    cases compF (own.map (·.2)) fi gd ft fe ρ with
    | bad => exact fun p => p
    | err x ρ1 => exact fun p S1 H1 c d e o q => p S1 σ H1 c d e o q
    | ok ds ρ1 => exact fun p S1 H1 q vs e o' fr hv r => p (upd S1 q (.lst vs)) _ H1 (e.trans (same_new fr.s)) ((o'.freeze fr hv).setD ⟨q, vs, rfl, upd_same, Rps.mono (same_new fr.s) _ _ r⟩)
theorem xs_setLcM (i : Nat) {y : Str} {py spos : Pos} (hc : X.calm = true) (hN : X.N.Nodup) (hi : XI X T W tg iter fi) (ok : BlkOk X.N X.env.scope scope own)
    (hg : ∀ (s : Shared) (H : Hp) (C : Addr) (cl : List (Str × Addr)) (fp : List Addr), XGo (X.blk s H scope (compEnvC scope cl C X.env) fp) T (own.map (·.2)) tg gd)
    (ht : ∀ (s : Shared) (H : Hp) (C : Addr) (cl : List (Str × Addr)) (fp : List Addr), XTs (X.blk s H scope (compEnvC scope cl C X.env) fp) T W0 ifs ft)
    (he : ∀ (s : Shared) (H : Hp) (C : Addr) (cl : List (Str × Addr)) (fp : List Addr), XE (X.blk s H scope (compEnvC scope cl C X.env) fp) T W0 elt fe)
    (hsw : swapsWith (.ListComp elt [⟨tg, iter, ifs, 0⟩] scope pos) (some (.Name y py)) spos.line X.env = pure true)
    (hy : X.N[i]? = some y := by rfl) (hyl : X.env.scope.names.lookup y = some .local := by rfl) (hs : ∀ x, foldedSetIterable iter X.env x = pure x := by intro _; rfl) :
    XS X T W (.Assign [.Name y py] (.ListComp elt [⟨tg, iter, ifs, 0⟩] scope pos) spos) (asgM i (compF (own.map (·.2)) fi gd ft fe)) :=
  (ps_setLc (g := rGo X.K T (own.map (fun p : Str × Nat => p.2)) gd) (tt := rT X.K T W0 ft) (te := rE X.K T W0 fe) hc hN hy hyl hsw hi ok hg ht he hs).impQ fun De σ H q => by
    obtain ⟨β, G, S, ρ, o, p⟩ := q
    refine tLc_of ⟨β, G, S, ρ, o, ?_⟩
    exact PostS.thnF p fun S1 H1 ρ1 ds a vs e1 o1 fr hv h1 p1 => p1 S1 _ H1 (Same.refl _) (o1.setM fr hv h1)
end

/-! ### defs -/
def GvR (K : PySem.W.Frag) (T : Tb) (S H : Hp) (r : Res) (Q : VK) (E : XK) : Prop := match r with
  | .ok d => Gv K T S H d Q
  | .err x => ∀ S' H' c d, Ext S H S' H' → XR K T S' x c d → E c d H'
  | .bad => False
/-- a def over plain data: n arguments -/
def spP (K : PySem.W.Frag) (T : Tb) (n : Nat) (F : List D → Res) : Sp := fun vs H Q E => ∃ S ds, Same S H ∧ Rps K T S ds vs ∧ ds.length = n ∧ GvR K T S H (F ds) Q E
def startR (n : Nat) (ds : List D) : Rho := ds.map .d ++ List.replicate (n - ds.length) .no
def runF (a n : Nat) (f : Rho → O) (ds : List D) : Res := if ds.length = a then (match f (startR n ds) with
  | .nx _ => .ok .non
  | .rt v ρ => (match v with
    | .d x => .ok x
    | .sl i => (match ρ[i]? with | some (.m xs) => .ok (.lst xs) | _ => .bad))
  | .rf ds _ => .ok (.lst ds)
  | .err x _ => .err x
  | _ => .bad) else .bad
theorem runF_len {a n : Nat} {f : Rho → O} (ds : List D) (h : runF a n f ds ≠ .bad) : ds.length = a := by
  unfold runF at h
  split at h
  · assumption
  · exact (h rfl).elim
section
variable {K : PySem.W.Frag} {T : Tb} {S S' H : Hp}
theorem start_cell : ∀ {ds : List D} {vs : List V} {n k i : Nat} {c : Cell}, Rps K T S ds vs → (ds.map Cell.d ++ List.replicate k .no)[i]? = some c → ∀ {β : Bt} {G : Hp}, CellOk K T β G S H (vs.map some ++ List.replicate n none)[i]? c
  | [], vs, n, k, i, c, h, e, β, G => by
    have hc : c = .no := by
      simp only [List.map_nil, List.nil_append] at e
      exact (List.mem_replicate.mp (List.mem_of_getElem? e)).2
    subst hc; trivial
  | d :: ds, vs, n, k, 0, c, ⟨v, r, e1, h, hs⟩, e, β, G => by
    simp at e; subst e; rw [e1]; exact ⟨v, rfl, h⟩
  | d :: ds, vs, n, k, i + 1, c, ⟨v, r, e1, h, hs⟩, e, β, G => by
    rw [e1]
    have := start_cell (n := n) (k := k) (i := i) (c := c) hs (by simpa using e) (β := β) (G := G)
    simpa using this
theorem start_noM {ds : List D} {k i : Nat} {xs : List D} (h : (ds.map Cell.d ++ List.replicate k .no)[i]? = some (.m xs)) : False := by
  have hm := List.mem_of_getElem? h
  rcases List.mem_append.mp hm with h1 | h1
  · obtain ⟨d, _, e⟩ := List.mem_map.mp h1; cases e
  · have := (List.mem_replicate.mp h1).2; cases this
/-- what stands beside S in H -/
def besides (S H : Hp) : Hp := fun b => match S b with | some _ => none | none => H b
theorem besides_same {S H : Hp} : Same (besides S H) H := fun b o e => by
  unfold besides at e
  split at e
  · cases e
  · exact e
theorem besides_apart {S H : Hp} {b : Addr} {o : HO} (e : besides S H b = some o) : S b = none := by
  unfold besides at e
  split at e
  · cases e
  · assumption
theorem besides_of {S H : Hp} {b : Addr} {o : HO} (e : H b = some o) (n : S b = none) : besides S H b = some o := by
  unfold besides; rw [n]; exact e
theorem ext_of {S H S' H' : Hp} (h0 : Same S H) (e : Same S S') (sh : Same S' H') (gh : Same (besides S H) H') (gs : ∀ b o, besides S H b = some o → S' b = none) : Ext S H S' H' where
  s := e
  h := fun b o q => by
    cases z : S b with
    | none => exact gh b o (besides_of q z)
    | some u => have := h0 b u z; rw [q] at this; cases this; exact sh b _ (e b _ z)
  sh := sh
  fr := fun b o q => by
    cases z : S b with
    | none => exact gs b o (besides_of q z)
    | some u => exact e b u z
end
section
variable {P : Program} {w : World} {K : PySem.W.Frag} {mg : Str → Option Value} {base : Heap} {T : Tb}
/-- THE RULE for a def over plain data -/
theorem fn_pure {x qual : Str} {st : Stmt} {f : Addr} {fd : FuncData} {N ps : List Str} {k : Nat} {g : Rho → O} (F : Fun K x qual st f fd) (Sc : FnScope N ps (defScope st)) (hlen : ps.length ≤ N.length)
    (hbody : ∀ (cdv : Value) (A : Around) (outer : List PySem.Env) (s : Shared) (H : Hp) (E : XK), Room k (A.deeper (envOfC qual (defScope st) s.heap.objs.size f cdv)) →
      Takes (cxOf (L2.CX P w) P w K mg base N qual (defScope st) f cdv A outer s H E) (fun c d _ H' => E c d H') →
      PassesOwn (model P w) (cxOf (L2.CX P w) P w K mg base N qual (defScope st) f cdv A outer s H E).A (cxOf (L2.CX P w) P w K mg base N qual (defScope st) f cdv A outer s H E).env (cxOf (L2.CX P w) P w K mg base N qual (defScope st) f cdv A outer s H E).xe →
      XB (cxOf (L2.CX P w) P w K mg base N qual (defScope st) f cdv A outer s H E) T (fun c d _ H' => E c d H') (defBody st) g) :
    FnOk P w K mg base (L2.CX P w) (k + 1) f fd ps (spP K T ps.length (runF ps.length N.length g)) := by
  refine F.okX Sc (fun vs H Q E h => ?_) (fun cdv A outer s H vs Q E hr h => ?_)
  · obtain ⟨S, ds, e, r, hl, _⟩ := h
    rw [r.len, hl]
  · obtain ⟨S, ds, e, r, hl, p⟩ := h
    refine ⟨_, hbody cdv A outer s H E hr (takes_of rfl rfl rfl rfl) (passes_of rfl), .no, besides S H, S, startR N.length ds, ?_, ?_⟩
    · refine ⟨e, besides_same, fun b o q => besides_apart q, fun b q => (nomatch q), fun b q => (nomatch q), ?_, fun i c q => start_cell r q, fun i j xs ys q => (start_noM q).elim⟩
      unfold L2.start startR
      rw [List.length_append, List.length_append, List.length_map, List.length_map, List.length_replicate, List.length_replicate, r.len]
    · have fin : ∀ {S' σ' ρ' H'}, Same S S' → Ok K T .no (besides S H) S' σ' ρ' H' → Ext S H S' H' := fun e1 o => ext_of e e1 o.sh o.gh o.gs
      unfold runF at p
      rw [if_pos hl] at p
      revert p
      cases g (startR N.length ds) with
      | nx ρ' => exact fun p S' σ' H' e1 o => p S' H' .non (fin e1 o) rfl
      | rt v ρ' =>
        intro p S' σ' H' u e1 o hv
        cases v with
        | d x => exact p S' H' u (fin e1 o) hv
        | sl i =>
          dsimp only at p
          split at p
          · rename_i xs q
            obtain ⟨a, vs', e2, e3, e4, r', o2⟩ := o.frzSlot q
            have : σ'[i]? = some (some u) := hv
            rw [e2] at this; cases this
            exact p _ H' (.ref a) (fin (e1.trans (same_new e4)) o2) ⟨a, vs', rfl, upd_same, Rps.mono (same_new e4) _ _ r'⟩
          · exact p.elim
      | err x ρ' => exact fun p S' σ' H' c d e1 o hx => p S' H' c d (fin e1 o) hx
      | rf ds' ρ' => exact fun p S' σ' H' a vs' e1 o fr hv r' => p _ H' (.ref a) (fin (e1.trans (same_new fr.s)) (o.freeze fr hv)) ⟨a, vs', rfl, upd_same, Rps.mono (same_new fr.s) _ _ r'⟩
      | bk ρ' => exact fun p => p.elim
      | ct ρ' => exact fun p => p.elim
      | bad => exact fun p => p.elim
end

theorem fn_bad {P : Program} {w : World} {K : PySem.W.Frag} {mg : Str → Option Value} {base : Heap} {T : Tb} {x qual : Str} {st : Stmt} {f : Addr} {fd : FuncData} {N ps : List Str} {k : Nat} (F : Fun K x qual st f fd) (Sc : FnScope N ps (defScope st)) :
    FnOk P w K mg base (L2.CX P w) (k + 1) f fd ps (spP K T ps.length (fun _ => .bad)) := by
  refine F.okX Sc (fun vs H Q E h => ?_) (fun cdv A outer s H vs Q E hr h => ?_)
  · obtain ⟨S, ds, e, r, hl, p⟩ := h
    exact p.elim
  · obtain ⟨S, ds, e, r, hl, p⟩ := h
    exact p.elim

/-! ### calls -/
def D.flat : D → Bool
  | .non => true
  | .bl _ => true
  | .int _ => true
  | .str _ => true
  | _ => false
def slotted : List VD → Bool
  | [] => false
  | .d _ :: vs => slotted vs
  | .sl _ :: _ => true
mutual
/-- no list in it, at any depth -/
def D.noL : D → Bool
  | .lst _ => false
  | .scr _ => false
  | .tup xs => noLs xs
  | .obj _ xs => noLs xs
  | _ => true
def noLs : List D → Bool
  | [] => true
  | d :: ds => d.noL && noLs ds
end
/-- the slots' own lists among some values become plain data -/
def frzAll : List VD → Rho → Option Rho
  | [], ρ => some ρ
  | .d _ :: vs, ρ => frzAll vs ρ
  | .sl i :: vs, ρ => match ρ[i]? with
    | some (.m xs) => frzAll vs (ρ.set i (.d (.lst xs)))
    | _ => none
def callE (F : List D → Res) (fs : Rho → R (List VD)) : Rho → R VD := fun ρ => (fs ρ).bind fun vs ρ1 => match resAll vs ρ1 with
  | some ds => (match F ds with
    | .ok d => if slotted vs && !d.noL then (match frzAll vs ρ1 with | some ρ2 => .ok (.d d) ρ2 | none => .bad) else .ok (.d d) ρ1
    | .err x => if slotted vs && !(noLs x.fs) then .bad else .err x ρ1
    | .bad => .bad)
  | none => .bad
section
variable {K : PySem.W.Frag} {T : Tb} {W : WX} {β : Bt} {G S S' H : Hp} {σ : L2.St} {ρ : Rho}
theorem Rp.flat {d : D} {v : V} (h : d.flat = true) (r : Rp K T S d v) (S' : Hp) : Rp K T S' d v := by
  cases d with
  | lst _ => cases h
  | tup _ => cases h
  | obj _ _ => cases h
  | scr _ => cases h
  | _ => exact r
theorem Rps.flat : ∀ {ds : List D} {vs : List V}, (ds.all D.flat) = true → Rps K T S ds vs → ∀ S', Rps K T S' ds vs
  | [], _, _, r, _ => r
  | d :: ds, _, h, ⟨v, r, e1, h1, hs⟩, S' => by
    rw [List.all_cons, Bool.and_eq_true] at h
    exact ⟨v, r, e1, h1.flat h.1 S', Rps.flat h.2 hs S'⟩
/-- all of S' but lists -/
def ButL (S S' : Hp) : Prop := ∀ b o, S b = some o → (∀ vs, o ≠ .lst vs) → S' b = some o
theorem ButL.tup {a : Addr} {xs : List V} (e : ButL S S') (h : SqT K S a xs) : SqT K S' a xs := by
  rcases h with h | h
  · rcases h with h | ⟨o, h⟩
    · exact .inl (.inl (e _ _ h fun _ z => by cases z))
    · exact .inl (.inr ⟨o, e _ _ h fun _ z => by cases z⟩)
  · exact .inr h
theorem ButL.ob {t : Nat} {a : Addr} {vs : List V} (e : ButL S S') (h : OB T S t a vs) : OB T S' t a vs := by
  rcases h with ⟨h, dd, h1, h2⟩ | ⟨h, dd, h1, h2⟩
  · exact .inl ⟨h, dd, e _ _ h1 (fun _ z => by cases z), e _ _ h2 (fun _ z => by cases z)⟩
  · exact .inr ⟨h, dd, e _ _ h1 (fun _ z => by cases z), e _ _ h2 (fun _ z => by cases z)⟩
mutual
theorem Rp.noL (e : ButL S S') : ∀ (d : D) (v : V), d.noL = true → Rp K T S d v → Rp K T S' d v
  | .non, _, _, h => h
  | .bl _, _, _, h => h
  | .int _, _, _, h => h
  | .str _, _, _, h => h
  | .lst _, _, n, _ => by cases n
  | .scr _, _, n, _ => by cases n
  | .tup ds, _, n, ⟨a, vs, e1, h, hs⟩ => ⟨a, vs, e1, e.tup h, Rps.noL e ds vs n hs⟩
  | .obj _ ds, _, n, ⟨a, vs, e1, h, hs⟩ => ⟨a, vs, e1, e.ob h, Rps.noL e ds vs n hs⟩
theorem Rps.noL (e : ButL S S') : ∀ (ds : List D) (vs : List V), noLs ds = true → Rps K T S ds vs → Rps K T S' ds vs
  | [], _, _, h => h
  | d :: ds, _, n, ⟨v, r, e1, h, hs⟩ => ⟨v, r, e1, Rp.noL e d v (Bool.and_eq_true_iff.1 n).1 h, Rps.noL e ds r (Bool.and_eq_true_iff.1 n).2 hs⟩
end
theorem frzAll_ne {i : Nat} {y : D} : ∀ {vs : List VD} {ρ ρ2 : Rho}, ρ[i]? = some (.d y) → frzAll vs ρ = some ρ2 → ∀ j, VD.sl j ∈ vs → j ≠ i
  | [], _, _, _, _, _, hj => by cases hj
  | .d x :: vs, ρ, ρ2, hi, h, j, hj => by
    rcases List.mem_cons.1 hj with z | hj
    · cases z
    · exact frzAll_ne hi (show frzAll vs ρ = some ρ2 from h) j hj
  | .sl k :: vs, ρ, ρ2, hi, h, j, hj => by
    unfold frzAll at h
    split at h
    · rename_i xs q
      have hk : k ≠ i := fun z => by subst z; rw [hi] at q; cases q
      rcases List.mem_cons.1 hj with z | hj
      · cases z; exact hk
      · exact frzAll_ne (ρ := ρ.set k (.d (.lst xs))) (by rw [List.getElem?_set_ne hk]; exact hi) h j hj
    · cases h
theorem resAll_out {i : Nat} {c : Cell} {ρ : Rho} : ∀ {vs : List VD}, (∀ j, VD.sl j ∈ vs → j ≠ i) → resAll vs (ρ.set i c) = resAll vs ρ
  | [], _ => rfl
  | .d x :: vs, h => by
    have := resAll_out (c := c) (ρ := ρ) (vs := vs) fun j hj => h j (List.mem_cons_of_mem _ hj)
    simp only [resAll, res, this]
  | .sl k :: vs, h => by
    have := resAll_out (c := c) (ρ := ρ) (vs := vs) fun j hj => h j (List.mem_cons_of_mem _ hj)
    have hk : k ≠ i := h k List.mem_cons_self
    simp only [resAll, res, this, List.getElem?_set_ne (Ne.symm hk)]
theorem Ok.frzAll : ∀ {vs : List VD} {us : List V} {ds : List D} {ρ ρ2 : Rho} {S : Hp}, Ok K T β G S σ ρ H → RpVs K T σ S vs us → Lq.resAll vs ρ = some ds → Lq.frzAll vs ρ = some ρ2 → ∃ S2, Same S S2 ∧ Ok K T β G S2 σ ρ2 H ∧ Rps K T S2 ds us
  | [], us, ds, ρ, ρ2, S, o, h, e, f => by
    simp only [Lq.resAll, Option.some.injEq] at e
    simp only [Lq.frzAll, Option.some.injEq] at f
    subst e; subst f
    exact ⟨S, Same.refl _, o, h⟩
  | .d x :: vs, us, ds, ρ, ρ2, S, o, ⟨u, r, e1, h, h2⟩, e, f => by
    simp only [Lq.resAll, Lq.res] at e
    split at e
    · rename_i a b q1 q2
      cases q1
      cases e
      obtain ⟨S2, s2, o2, r2⟩ := Ok.frzAll o h2 q2 (show Lq.frzAll vs ρ = some ρ2 from f)
      exact ⟨S2, s2, o2, u, r, e1, Rp.mono s2 _ _ h, r2⟩
    · cases e
  | .sl i :: vs, us, ds, ρ, ρ2, S, o, ⟨u, r, e1, h, h2⟩, e, f => by
    unfold Lq.frzAll at f
    split at f
    · rename_i xs q
      obtain ⟨a, ws, e2, e3, e4, r5, o2⟩ := o.frzSlot q
      have hu : σ[i]? = some (some u) := h
      rw [e2] at hu; cases hu
      have hl : i < ρ.length := (List.getElem?_eq_some_iff.mp q).1
      have hne := frzAll_ne (i := i) (y := .lst xs) (ρ := ρ.set i (.d (.lst xs))) (List.getElem?_set_self hl) f
      simp only [Lq.resAll, Lq.res, q] at e
      split at e
      · rename_i a' b q1 q2
        cases q1
        cases e
        obtain ⟨S2, s2, o3, r3⟩ := Ok.frzAll o2 (RpVs.mono (same_new e4) h2) ((resAll_out hne).trans q2) f
        exact ⟨S2, (same_new e4).trans s2, o3, .ref a, r, e1, ⟨a, ws, rfl, s2 _ _ upd_same, Rps.mono ((same_new e4).trans s2) _ _ r5⟩, r3⟩
      · cases e
    · cases f
theorem unslot : ∀ {vs : List VD} {us : List V} {ds : List D}, slotted vs = false → RpVs K T σ S vs us → resAll vs ρ = some ds → Rps K T S ds us
  | [], _, _, _, h, e => by simp only [resAll, Option.some.injEq] at e; subst e; exact h
  | .d x :: vs, _, _, hs, ⟨u, r, e1, h, h2⟩, e => by
    simp only [resAll, res] at e
    split at e
    · rename_i a b q1 q2
      cases q1
      cases e
      exact ⟨u, r, e1, h, unslot (show slotted vs = false from hs) h2 q2⟩
    · cases e
  | .sl _ :: _, _, _, hs, _, _ => by cases hs
/-- S with the slots' own lists -/
def withSlots (S H : Hp) (us : List V) : Hp := fun b => match S b with
  | some o => some o
  | none => if V.ref b ∈ us then (match H b with | some (.lst vs) => some (.lst vs) | _ => none) else none
theorem ws_same {us : List V} : Same S (withSlots S H us) := fun b o e => by unfold withSlots; rw [e]
theorem ws_sub {us : List V} (e : Same S H) : Same (withSlots S H us) H := fun b o q => by
  unfold withSlots at q
  split at q
  · rename_i u z
    cases q; exact e b _ z
  · split at q
    · split at q
      · rename_i vs z; cases q; exact z
      · cases q
    · cases q
theorem withSlots_rps {us0 : List V} (o : Ok K T β G S σ ρ H) : ∀ {vs : List VD} {us : List V} {ds : List D}, (∀ u ∈ us, u ∈ us0) → RpVs K T σ S vs us → resAll vs ρ = some ds → Rps K T (withSlots S H us0) ds us
  | [], _, _, _, h, e => by simp only [resAll, Option.some.injEq] at e; subst e; exact h
  | v :: vs, _, _, hm, ⟨u, r, e1, h, h2⟩, e => by
    simp only [resAll] at e
    split at e
    · rename_i a b q1 q2
      cases e
      refine ⟨u, r, e1, ?_, withSlots_rps o (fun z hz => hm z (by rw [e1]; exact List.mem_cons_of_mem _ hz)) h2 q2⟩
      have hu : u ∈ us0 := hm u (by rw [e1]; exact List.mem_cons_self)
      rcases o.res h q1 with h3 | ⟨p, ws, xs, e3, e4, e5, r5⟩
      · exact Rp.mono ws_same _ _ h3
      · subst e3; subst e4
        refine ⟨p, ws, rfl, ?_, Rps.mono ws_same _ _ r5⟩
        unfold withSlots
        split
        · rename_i o' z
          have := o.sh p _ z
          rw [e5] at this; cases this; rfl
        · rw [if_pos hu, e5]
    · cases e
/-- behind a call that was given slots: they are slots again -/
theorem ext_back {us : List V} {S' H' : Hp} (h0 : Same S H) (e : Ext (withSlots S H us) H S' H') : Ext S H (fun b => match S b, withSlots S H us b with | none, some _ => none | _, _ => S' b) H' where
  s := fun b o q => by
    show (match S b, withSlots S H us b with | none, some _ => none | _, _ => S' b) = some o
    rw [q]; exact e.s b o (ws_same b o q)
  h := e.h
  sh := fun b o q => by
    have q' : (match S b, withSlots S H us b with | none, some _ => none | _, _ => S' b) = some o := q
    split at q'
    · cases q'
    · exact e.sh b o q'
  fr := fun b o q => by
    show (match S b, withSlots S H us b with | none, some _ => none | _, _ => S' b) = S b
    split
    · rename_i z _; rw [z]
    · rename_i hn
      rw [e.fr b o q]
      cases z : S b with
      | some u => exact ws_same b u z
      | none =>
        cases y : withSlots S H us b with
        | none => rfl
        | some u => exact (hn u z y).elim
theorem ext_butL {us : List V} {S' H' : Hp} (e : Ext (withSlots S H us) H S' H') : ButL S' (fun b => match S b, withSlots S H us b with | none, some _ => none | _, _ => S' b) := fun b o q n => by
  show (match S b, withSlots S H us b with | none, some _ => none | _, _ => S' b) = some o
  split
  · rename_i o' z y
    have z2 := e.s b o' y
    rw [q] at z2
    cases z2
    unfold withSlots at y
    rw [z] at y
    dsimp only at y
    split at y
    · split at y
      · cases y; exact (n _ rfl).elim
      · cases y
    · cases y
  · exact q
end
section
variable {X : Cx} {T : Tb} {W : WX} {e : Expr} {es : List Expr} {fs : Rho → R (List VD)} {pos : Pos}
theorem call_of {K : PySem.W.Frag} {F : List D → Res} {n : Nat} {σ : L2.St} {H : Hp} {Q : VK} (hn : ∀ ds, F ds ≠ .bad → ds.length = n) (h : rE K T W (callE F fs) σ H Q) : tCallS (spP K T n F) (WE W) (rA K T W fs) σ H Q := by
  obtain ⟨β, G, S, ρ, o, p⟩ := h
  refine ⟨β, G, S, ρ, o, Post.thn (Rl := RpVs K T σ) p fun S1 H1 ρ1 vs us e1 o1 h1 p1 => ?_⟩
  split at p1
  case h_2 => exact p1.elim
  case h_1 ds q =>
  cases hs : slotted vs with
  | false =>
    refine ⟨S1, ds, o1.sh, unslot hs h1 q, hn ds (fun z => by rw [z] at p1; exact p1), ?_⟩
    rw [hs] at p1
    revert p1
    cases F ds with
    | ok d => exact fun p1 => p1.gv o1
    | err x => exact fun p1 S2 H2 c d e2 hx => p1 S2 H2 c d e2.s (o1.ext e2) hx
    | bad => exact fun p1 => p1
  | true =>
    have hb : ds.length = n := hn ds (fun z => by rw [z] at p1; exact p1)
    rw [hs] at p1
    revert p1
    cases hF : F ds with
    | ok d =>
      intro p1
      dsimp only at p1
      cases hL : d.noL with
      | false =>
        rw [hL] at p1
        simp only [Bool.not_false, Bool.and_self, if_true] at p1
        split at p1
        · rename_i ρ2 f
          obtain ⟨S2, s2, o2, r2⟩ := Ok.frzAll o1 h1 q f
          refine ⟨S2, ds, o2.sh, r2, hb, ?_⟩
          rw [hF]
          exact (p1.mono s2).gv o2
        · exact p1.elim
      | true =>
        rw [hL] at p1
        refine ⟨withSlots S1 H1 us, ds, ws_sub o1.sh, withSlots_rps o1 (fun _ hz => hz) h1 q, hb, ?_⟩
        rw [hF]
        intro S2 H2 v e2 r2
        have e3 := ext_back o1.sh e2
        exact p1 _ H2 v e3.s (o1.ext e3) (Rp.noL (ext_butL e2) _ _ hL r2)
    | err x =>
      intro p1
      dsimp only at p1
      cases hL : noLs x.fs with
      | false =>
        rw [hL] at p1
        exact p1.elim
      | true =>
        rw [hL] at p1
        refine ⟨withSlots S1 H1 us, ds, ws_sub o1.sh, withSlots_rps o1 (fun _ hz => hz) h1 q, hb, ?_⟩
        rw [hF]
        intro S2 H2 c d e2 hx
        have e3 := ext_back o1.sh e2
        obtain ⟨h3, dd, ws, h4, h5, h6⟩ := hx
        exact p1 _ H2 c d e3.s (o1.ext e3) ⟨h3, dd, ws, h4, ext_butL e2 _ _ h5 (fun _ z => by cases z), Rps.noL (ext_butL e2) _ _ hL h6⟩
    | bad => exact fun p1 => p1.elim
/-- f(e, ..) -/
theorem xe_call {F : List D → Res} {k : Nat} {f : Addr} {fd : FuncData} {ps : List Str} {n : Nat} {x : Str} {p : Pos} (Fk : FnOk X.prog X.w X.K X.mg X.base (L2.CX X.prog X.w) k f fd ps (spP X.K T n F)) (hr : Room k X.A) (hm : X.mg x = some (.ref f)) (hk : PySem.W.keepIn X.K (.ref f) = true) (hb : Binds X.K fd ps [])
    (tk : Takes X W) (hn : ∀ ds, F ds ≠ .bad → ds.length = n) (ha : XA X T W (e :: es) fs) (hg : L2.Gl X x := by rfl) (hdb : (x == ("__debug__" : Str)) = false := by decide) (he : starEach (e :: es) X.env = (false, eval e X.env) :: starEach es X.env := by rfl) (hpl : (backTo pos (starEach es X.env)).any (·.1) = false := by rfl) :
    XE X T W (.Call (.Name x p) (e :: es) [] pos) (callE F fs) :=
  (pe_callS Fk hr hg hm hk hb (fun σ => passAt tk σ) ha hdb he hpl).impQ fun _ _ _ h => call_of hn h
end
end Lq
namespace Lq
open PySem PySem.Spec PyProof.Rows L2
/-! ### operations over data -/
def addD : D → D → Option D
  | .int i, .int j => some (.int (i + j))
  | .str a, .str b => if fits (a.length + b.length) then some (.str (a ++ b)) else none
  | .lst xs, .lst ys => if fits (xs.length + ys.length) then some (.lst (xs ++ ys)) else none
  | .tup xs, .tup ys => if fits (xs.length + ys.length) then some (.tup (xs ++ ys)) else none
  | _, _ => none
def catF : D → D → Option (List D)
  | .lst xs, .lst ys => if fits (xs.length + ys.length) then some (xs ++ ys) else none
  | _, _ => none
def subD : D → D → Option D
  | .int i, .int j => some (.int (i - j))
  | _, _ => none
def big (i : Int) : Bool := Nat.ble i.natAbs 18446744073709551615
def mulD : D → D → Option D
  | .int i, .int j => if big i || big j then some (.int (i * j)) else none
  | .lst xs, .int k => if decide (0 ≤ k) && (decide (k ≤ 1000) && decide (xs.length ≤ 1000)) then some (.lst (List.replicate k.toNat xs).flatten) else none
  | .tup xs, .int k => if !xs.isEmpty && (decide (2 ≤ k) && (decide (k ≤ 1000) && decide (xs.length ≤ 1000))) then some (.tup (List.replicate k.toNat xs).flatten) else none
  | .str x, .int k => if decide (2 ≤ k) && (decide (k ≤ 1000) && (decide (0 < x.length) && decide (x.length ≤ 1000))) then some (.str ⟨(List.replicate k.toNat x.cps).foldl (· ++ ·) #[]⟩) else none
  | _, _ => none
def fdivD : D → D → Option D
  | .int i, .int j => if decide (0 < j) && decide (j < 1073741824) then some (.int (i / j)) else none
  | _, _ => none
def modD : D → D → Option D
  | .int i, .int j => if decide (0 < j) then some (.int (i % j)) else none
  | _, _ => none
def powD : D → D → Option D
  | .int i, .int j => if decide (0 ≤ j) && (decide (j ≤ 1000000) && decide (i.natAbs < 2 ^ 64)) then some (.int (i ^ j.toNat)) else none
  | _, _ => none
def negD : D → Option D
  | .int i => some (.int (-i))
  | _ => none
def ltD : D → D → Option D
  | .int i, .int j => some (.bl (decide (i < j)))
  | .str i, .str j => some (.bl (decide (i.cps.toList < j.cps.toList)))
  | _, _ => none
def leD : D → D → Option D
  | .int i, .int j => some (.bl (decide (i ≤ j)))
  | _, _ => none
def gtD : D → D → Option D
  | .int i, .int j => some (.bl (decide (j < i)))
  | _, _ => none
def geD : D → D → Option D
  | .int i, .int j => some (.bl (decide (j ≤ i)))
  | _, _ => none
mutual
def toPy : D → PyData
  | .non => .none
  | .bl b => .bool b
  | .int i => .int i
  | .str s => .str s
  | .lst xs => .list (toPys xs)
  | .tup xs => .tuple (toPys xs)
  | .obj _ _ => .none
  | .scr _ => .none
def toPys : List D → List PyData
  | [] => []
  | x :: xs => toPy x :: toPys xs
end
mutual
def plainD : D → Bool
  | .lst xs => plainDs xs
  | .tup xs => plainDs xs
  | .obj _ _ => false
  | .scr _ => false
  | _ => true
def plainDs : List D → Bool
  | [] => true
  | x :: xs => plainD x && plainDs xs
end
mutual
def deq : D → D → Bool
  | .non, .non => true
  | .bl a, .bl b => a == b
  | .bl a, .int j => (if a then 1 else 0) == j
  | .int i, .bl b => i == (if b then 1 else 0)
  | .int i, .int j => i == j
  | .str x, .str y => x == y
  | .lst xs, .lst ys => deqs xs ys
  | .tup xs, .tup ys => deqs xs ys
  | .obj _ _, .non => true
  | .non, .obj _ _ => true
  | .obj _ _, .obj _ _ => true
  | .scr _, .non => true
  | .non, .scr _ => true
  | .scr _, .scr _ => true
  | .obj _ _, .scr _ => true
  | .scr _, .obj _ _ => true
  | _, _ => false
def deqs : List D → List D → Bool
  | [], [] => true
  | x :: xs, y :: ys => deq x y && deqs xs ys
  | _, _ => false
end
def okQ (d : D) : Bool := plainD d && SeqAt.shaped (toPy d)
def sameKind : D → D → Bool
  | .non, .non => true
  | .bl _, .bl _ => true
  | .int _, .int _ => true
  | .str _, .str _ => true
  | _, _ => false
def eqD (x y : D) : Option D := if sameKind x y || (okQ x && okQ y) then some (.bl (deq x y)) else none
def neD (x y : D) : Option D := if sameKind x y || (okQ x && okQ y) then some (.bl (!deq x y)) else none
mutual
theorem deq_eqv : ∀ x y : D, PyData.eqv (toPy x) (toPy y) = deq x y
  | .non, y => by cases y <;> simp [toPy, PyData.eqv, deq]
  | .bl a, y => by cases y <;> simp [toPy, PyData.eqv, deq]
  | .int a, y => by cases y <;> simp [toPy, PyData.eqv, deq]
  | .str a, y => by cases y <;> simp [toPy, PyData.eqv, deq]
  | .lst xs, y => by
    cases y with
    | lst ys => simp only [toPy, PyData.eqv, deq]; exact deqs_eqv xs ys
    | _ => simp [toPy, PyData.eqv, deq]
  | .tup xs, y => by
    cases y with
    | tup ys => simp only [toPy, PyData.eqv, deq]; exact deqs_eqv xs ys
    | _ => simp [toPy, PyData.eqv, deq]
  | .obj a b, y => by cases y <;> simp [toPy, PyData.eqv, deq]
  | .scr a, y => by cases y <;> simp [toPy, PyData.eqv, deq]
theorem deqs_eqv : ∀ xs ys : List D, PyData.eqvAll (toPys xs) (toPys ys) = deqs xs ys
  | [], [] => by simp [toPys, PyData.eqvAll, deqs]
  | [], _ :: _ => by simp [toPys, PyData.eqvAll, deqs]
  | _ :: _, [] => by simp [toPys, PyData.eqvAll, deqs]
  | x :: xs, y :: ys => by simp only [toPys, PyData.eqvAll, deqs]; rw [deq_eqv x y, deqs_eqv xs ys]
end
section
variable {K : PySem.W.Frag} {T : Tb} {S H : Hp}
mutual
theorem Rp.dp (e : Same S H) : ∀ (d : D) (v : V), plainD d = true → Rp K T S d v → Dp K H v (toPy d)
  | .non, _, _, h => by rw [show _ = V.non from h]; exact .non
  | .bl b, _, _, h => by rw [show _ = V.bl b from h]; exact .bl b
  | .int b, _, _, h => by rw [show _ = V.int b from h]; exact .int b
  | .str b, _, _, h => by rw [show _ = V.str b from h]; exact .str b
  | .lst xs, _, hp, ⟨a, vs, e1, q, r⟩ => by rw [e1]; exact .lst (SqL.of (e _ _ q)) (Rps.dp e xs vs hp r)
  | .tup xs, _, hp, ⟨a, vs, e1, q, r⟩ => by rw [e1]; exact .tup (same_tup e q) (Rps.dp e xs vs hp r)
  | .obj _ _, _, hp, _ => by cases hp
  | .scr _, _, hp, _ => by cases hp
theorem Rps.dp (e : Same S H) : ∀ (ds : List D) (vs : List V), plainDs ds = true → Rps K T S ds vs → DpAll K H vs (toPys ds)
  | [], _, _, h => by rw [show _ = [] from h]; exact .nil
  | d :: ds, _, hp, ⟨v, r, e1, h, hs⟩ => by
    have hp' : (plainD d && plainDs ds) = true := hp
    rw [Bool.and_eq_true] at hp'
    rw [e1]; exact .cons (Rp.dp e d v hp'.1 h) (Rps.dp e ds r hp'.2 hs)
end
theorem RpH.dp {d : D} {v : V} (h : RpH K T S H d v) (e : Same S H) (hp : plainD d = true) : Dp K H v (toPy d) := by
  rcases h with h | ⟨a, vs, xs, rfl, rfl, q, r⟩
  · exact Rp.dp e d v hp h
  · exact .lst (SqL.of q) (Rps.dp e xs vs hp r)
end
section
variable {X : Cx} {T : Tb}
def rAdd4 (K : PySem.W.Frag) : R2 := fun x y H Q => rI0 (fun i j => .int (i + j)) x y H Q ∨ (∃ i j, x = .str i ∧ y = .str j ∧ i.length + j.length ≤ sizeLine ∧ Q (.str (i ++ j)) H) ∨ rCat x y H Q ∨ rCatA K x y H Q
theorem op_addA : OpR X (binaryOp .Add) (rAdd4 X.K) := op_add.or (op_add_str.or (op_cat.or op_catA))
theorem p_add {K : PySem.W.Frag} : Prim2 K T (rAdd4 K) addD := fun S H x y dx dy d Q e hx hy h g => by
  unfold addD at h
  split at h
  · cases h; exact .inl ⟨_, _, hx.int, hy.int, g.now e rfl⟩
  · split at h
    · rename_i hf; cases h; exact .inr (.inl ⟨_, _, hx.str, hy.str, fits_line hf, g.now e rfl⟩)
    · cases h
  · split at h
    · rename_i hf
      cases h
      obtain ⟨a, vs, rfl, q, r⟩ := hx.lst e
      obtain ⟨b, ws, rfl, q', r'⟩ := hy.lst e
      exact .inr (.inr (.inl ⟨a, b, vs, ws, rfl, rfl, q, q', by rw [r.len, r'.len]; exact fits_line hf, fun p hp => g.newL e (r.append r') p hp⟩))
    · cases h
  · split at h
    · rename_i hf
      cases h
      obtain ⟨a, vs, rfl, q, r⟩ := hx.tup e
      obtain ⟨b, ws, rfl, q', r'⟩ := hy.tup e
      refine .inr (.inr (.inr ⟨a, b, vs, ws, rfl, rfl, q, q', by rw [r.len, r'.len]; exact fits_line hf, fun z => ?_, fun _ z => ?_, fun _ _ p hp => g.newT e (r.append r') p hp⟩))
      · rcases hy with hy | ⟨_, _, _, _, ee, _⟩
        · refine g.now e ?_
          have hl := r.len
          rw [z] at hl
          rw [List.length_eq_zero_iff.mp hl.symm, List.nil_append]
          exact hy
        · cases ee
      · rcases hx with hx | ⟨_, _, _, _, ee, _⟩
        · refine g.now e ?_
          have hl := r'.len
          rw [z] at hl
          rw [List.length_eq_zero_iff.mp hl.symm, List.append_nil]
          exact hx
        · cases ee
    · cases h
  · cases h
theorem p_catF {K : PySem.W.Frag} : Prim2F K T rCat catF := fun S H x y dx dy d Q e hx hy h g => by
  unfold catF at h
  split at h
  · split at h
    · rename_i hf
      cases h
      obtain ⟨a, vs, rfl, q, r⟩ := hx.lst e
      obtain ⟨b, ws, rfl, q', r'⟩ := hy.lst e
      exact ⟨a, b, vs, ws, rfl, rfl, q, q', by rw [r.len, r'.len]; exact fits_line hf, fun p hp => g.new e (r.append r') p hp⟩
    · cases h
  · cases h
theorem p_sub {K : PySem.W.Frag} : Prim2 K T (rI0 fun i j => .int (i - j)) subD := fun S H x y dx dy d Q e hx hy h g => by
  unfold subD at h
  split at h
  · cases h; exact ⟨_, _, hx.int, hy.int, g.now e rfl⟩
  · cases h
def rRepS : R2 := fun x y H Q => ∃ z k, x = .str z ∧ y = .int k ∧ 2 ≤ k ∧ k ≤ 1000 ∧ 0 < z.length ∧ z.length ≤ 1000 ∧ Q (.str ⟨(List.replicate k.toNat z.cps).foldl (· ++ ·) #[]⟩) H
theorem rep_size (z : Array Nat) : ∀ (n : Nat) (a : Array Nat), ((List.replicate n z).foldl (· ++ ·) a).size = a.size + z.size * n
  | 0, a => by simp
  | n + 1, a => by
    rw [List.replicate_succ, List.foldl_cons, rep_size z n, Array.size_append, Nat.mul_succ]
    omega
theorem op_repS : OpR X (binaryOp .Mult) rRepS := by
  intro pins s σ H x y v u Q I rx ry h
  obtain ⟨z, k, rfl, rfl, h2, h3, h4, h5, q⟩ := h
  obtain ⟨t, rfl⟩ := rx
  obtain ⟨t', rfl⟩ := ry
  have hz : z.length * k.toNat ≤ 1000000 := Nat.le_trans (Nat.mul_le_mul h5 (show k.toNat ≤ 1000 by omega)) (by decide)
  have hz' : (z.length : Int) * k ≤ 1000000 := by
    have e : ((k.toNat : Nat) : Int) = k := by omega
    have h7 : ((z.length * k.toNat : Nat) : Int) ≤ 1000000 := by omega
    rw [Int.natCast_mul, e] at h7; exact h7
  refine PySem.P.mul_str ?_ (fun _ _ hgt => ?_) (fun _ _ => ?_) ?_
  · rw [decide_eq_false (by omega), decide_eq_false (by omega)]; rfl
  · have h6 : (2 ^ 63 - 1 : Int) / k < z.length := hgt
    have := (Int.ediv_lt_iff_lt_mul (by omega)).mp h6
    omega
  · unfold Builtin.Str.tooLong; exact decide_eq_false (by rw [sizeLine_eq]; omega)
  · rw [if_neg (by omega), if_neg (by
      rw [Bool.or_eq_true]
      rintro (e | e)
      · have := eq_of_beq e; omega
      · have := eq_of_beq e; omega)]
    refine ⟨?_, .str _, H, I.tok _, ⟨_, rfl⟩, q⟩
    show ((List.replicate k.toNat z.cps).foldl (· ++ ·) #[]).size ≤ sizeLine
    rw [rep_size, sizeLine_eq]
    have : (#[] : Array Nat).size + z.cps.size * k.toNat = z.length * k.toNat := by simp [Str.length]
    omega
def rMul3 (K : PySem.W.Frag) : R2 := fun x y H Q => L2.rI CMul (fun i j => .int (i * j)) x y H Q ∨ rRep x y H Q ∨ rRepT K x y H Q ∨ rRepS x y H Q
theorem op_mulA : OpR X (binaryOp .Mult) (rMul3 X.K) := op_mul.or (op_rep.or (op_repT.or op_repS))
theorem Rps.rep {K : PySem.W.Frag} {S : Hp} {ds : List D} {vs : List V} (r : Rps K T S ds vs) : ∀ n : Nat, Rps K T S (List.replicate n ds).flatten (List.replicate n vs).flatten
  | 0 => rfl
  | n + 1 => by rw [List.replicate_succ, List.replicate_succ, List.flatten_cons, List.flatten_cons]; exact r.append (Rps.rep r n)
theorem p_mul {K : PySem.W.Frag} : Prim2 K T (rMul3 K) mulD := fun S H x y dx dy d Q e hx hy h g => by
  unfold mulD at h
  split at h
  · split at h
    · rename_i hb
      cases h
      refine .inl ⟨_, _, hx.int, hy.int, ?_, g.now e rfl⟩
      rw [Bool.or_eq_true] at hb
      rcases hb with hb | hb <;> (unfold big at hb; have hn := Nat.le_of_ble_eq_true hb)
      · exact .inl ⟨by omega, by omega⟩
      · exact .inr ⟨by omega, by omega⟩
    · cases h
  · split at h
    · rename_i hb
      cases h
      simp only [Bool.and_eq_true, decide_eq_true_eq] at hb
      obtain ⟨a, vs, rfl, q, r⟩ := hx.lst e
      refine .inr (.inl ⟨a, _, vs, rfl, hy.int, q, by omega, by omega, ?_, fun p hp => g.newL e (r.rep _) p hp⟩)
      rw [r.len]
      exact Nat.le_trans (Nat.mul_le_mul hb.2.2 (show _ ≤ 1000 by omega)) (by rw [sizeLine_eq]; decide)
    · cases h
  · split at h
    · rename_i hb
      cases h
      simp only [Bool.and_eq_true, decide_eq_true_eq, Bool.not_eq_true', List.isEmpty_eq_false_iff] at hb
      obtain ⟨a, vs, rfl, q, r⟩ := hx.tup e
      refine .inr (.inr (.inl ⟨a, _, vs, rfl, hy.int, q, ?_, hb.2.1, hb.2.2.1, by rw [r.len]; exact hb.2.2.2, fun p hp => g.newT e (r.rep _) p hp⟩))
      intro z
      have hl := r.len
      rw [z] at hl
      exact hb.1 (List.length_eq_zero_iff.mp hl.symm)
    · cases h
  · split at h
    · rename_i hb
      cases h
      simp only [Bool.and_eq_true, decide_eq_true_eq] at hb
      exact .inr (.inr (.inr ⟨_, _, hx.str, hy.int, hb.1, hb.2.1, hb.2.2.1, hb.2.2.2, g.now e rfl⟩))
    · cases h
  · cases h
theorem p_fdiv {K : PySem.W.Frag} : Prim2 K T (L2.rI CDiv fun i j => .int (i / j)) fdivD := fun S H x y dx dy d Q e hx hy h g => by
  unfold fdivD at h
  split at h
  · split at h
    · rename_i hb
      cases h
      rw [Bool.and_eq_true] at hb
      exact ⟨_, _, hx.int, hy.int, ⟨of_decide_eq_true hb.1, of_decide_eq_true hb.2⟩, g.now e rfl⟩
    · cases h
  · cases h
theorem p_mod {K : PySem.W.Frag} : Prim2 K T (L2.rI (fun _ j => 0 < j) fun i j => .int (i % j)) modD := fun S H x y dx dy d Q e hx hy h g => by
  unfold modD at h
  split at h
  · split at h
    · rename_i hb
      cases h
      exact ⟨_, _, hx.int, hy.int, of_decide_eq_true hb, g.now e rfl⟩
    · cases h
  · cases h
theorem p_pow {K : PySem.W.Frag} : Prim2 K T (L2.rI CPow fun i j => .int (i ^ j.toNat)) powD := fun S H x y dx dy d Q e hx hy h g => by
  unfold powD at h
  split at h
  · split at h
    · rename_i hb
      cases h
      simp only [Bool.and_eq_true] at hb
      exact ⟨_, _, hx.int, hy.int, ⟨of_decide_eq_true hb.1, of_decide_eq_true hb.2.1, of_decide_eq_true hb.2.2⟩, g.now e rfl⟩
    · cases h
  · cases h
theorem p_neg {K : PySem.W.Frag} : Prim1 K T (rU fun i => .int (-i)) negD := fun S H x dx d Q e hx h g => by
  unfold negD at h
  split at h
  · cases h; exact ⟨_, hx.int, g.now e rfl⟩
  · cases h
def rLt2 : R2 := fun x y H Q => rI0 (fun i j => .bl (decide (i < j))) x y H Q ∨ (∃ i j, x = .str i ∧ y = .str j ∧ Q (.bl (decide (i.cps.toList < j.cps.toList))) H)
theorem op_ltA : OpR X (compareOp .Lt) rLt2 := op_lt.or op_lt_str
theorem p_lt {K : PySem.W.Frag} : Prim2 K T rLt2 ltD := fun S H x y dx dy d Q e hx hy h g => by
  unfold ltD at h
  split at h
  · cases h; exact .inl ⟨_, _, hx.int, hy.int, g.now e rfl⟩
  · cases h; exact .inr ⟨_, _, hx.str, hy.str, g.now e rfl⟩
  · cases h
theorem p_le {K : PySem.W.Frag} : Prim2 K T (rI0 fun i j => .bl (decide (i ≤ j))) leD := fun S H x y dx dy d Q e hx hy h g => by
  unfold leD at h
  split at h
  · cases h; exact ⟨_, _, hx.int, hy.int, g.now e rfl⟩
  · cases h
theorem p_gt {K : PySem.W.Frag} : Prim2 K T (rI0 fun i j => .bl (decide (j < i))) gtD := fun S H x y dx dy d Q e hx hy h g => by
  unfold gtD at h
  split at h
  · cases h; exact ⟨_, _, hx.int, hy.int, g.now e rfl⟩
  · cases h
theorem p_ge {K : PySem.W.Frag} : Prim2 K T (rI0 fun i j => .bl (decide (j ≤ i))) geD := fun S H x y dx dy d Q e hx hy h g => by
  unfold geD at h
  split at h
  · cases h; exact ⟨_, _, hx.int, hy.int, g.now e rfl⟩
  · cases h
def rEq2 (K : PySem.W.Frag) : R2 := fun x y H Q => rEq x y H Q ∨ rEqD K x y H Q
def rNe2 (K : PySem.W.Frag) : R2 := fun x y H Q => rNe x y H Q ∨ rNeD K x y H Q
theorem op_eqA (hu : X.A.units + 64 < cLine) : OpR X (compareOp .Eq) (rEq2 X.K) := op_eq.or (op_eqD hu)
theorem op_neA (hu : X.A.units + 64 < cLine) : OpR X (compareOp .NotEq) (rNe2 X.K) := op_ne.or (op_neD hu)
theorem same_kind {K : PySem.W.Frag} {S H : Hp} {x y : V} {dx dy : D} (hx : RpH K T S H dx x) (hy : RpH K T S H dy y) (h : sameKind dx dy = true) : scal x y = true ∧ decide (x = y) = deq dx dy := by
  cases dx <;> cases dy <;> first | cases h | skip
  · rw [hx.non, hy.non]; exact ⟨rfl, rfl⟩
  · rw [hx.bl, hy.bl]; exact ⟨rfl, dec_bl⟩
  · rw [hx.int, hy.int]; exact ⟨rfl, dec_int⟩
  · rw [hx.str, hy.str]; exact ⟨rfl, dec_str⟩
theorem p_eq {K : PySem.W.Frag} : Prim2 K T (rEq2 K) eqD := fun S H x y dx dy d Q e hx hy h g => by
  unfold eqD at h
  by_cases hk : sameKind dx dy = true
  · rw [hk, Bool.true_or, if_pos rfl] at h
    cases h
    obtain ⟨h1, h2⟩ := same_kind hx hy hk
    exact .inl ⟨h1, by rw [h2]; exact g.now e rfl⟩
  · rw [Bool.not_eq_true] at hk
    rw [hk, Bool.false_or] at h
    split at h
    · rename_i ho
      cases h
      unfold okQ at ho
      simp only [Bool.and_eq_true] at ho
      refine .inr ⟨_, _, hx.dp e ho.1.1, hy.dp e ho.2.1, ho.1.2, ho.2.2, ?_⟩
      rw [deq_eqv]; exact g.now e rfl
    · cases h
theorem p_ne {K : PySem.W.Frag} : Prim2 K T (rNe2 K) neD := fun S H x y dx dy d Q e hx hy h g => by
  unfold neD at h
  by_cases hk : sameKind dx dy = true
  · rw [hk, Bool.true_or, if_pos rfl] at h
    cases h
    obtain ⟨h1, h2⟩ := same_kind hx hy hk
    exact .inl ⟨h1, by rw [h2]; exact g.now e rfl⟩
  · rw [Bool.not_eq_true] at hk
    rw [hk, Bool.false_or] at h
    split at h
    · rename_i ho
      cases h
      unfold okQ at ho
      simp only [Bool.and_eq_true] at ho
      refine .inr ⟨_, _, hx.dp e ho.1.1, hy.dp e ho.2.1, ho.1.2, ho.2.2, ?_⟩
      rw [deq_eqv]; exact g.now e rfl
    · cases h
def isNon : D → Bool
  | .non => true
  | _ => false
theorem isNon_of {K : PySem.W.Frag} {S H : Hp} {x : V} {d : D} (h : RpH K T S H d x) : decide (x = .non) = isNon d := by
  rcases h with h | ⟨a, vs, xs, rfl, rfl, _⟩
  · cases d with
    | non => rw [show x = _ from h]; rfl
    | bl b => rw [show x = _ from h]; rfl
    | int b => rw [show x = _ from h]; rfl
    | str b => rw [show x = _ from h]; rfl
    | lst b => obtain ⟨a, vs, rfl, _⟩ := h; rfl
    | tup b => obtain ⟨a, vs, rfl, _⟩ := h; rfl
    | obj _ _ => obtain ⟨a, vs, rfl, _⟩ := h; rfl
    | scr _ => obtain ⟨a, rfl, _⟩ := h; rfl
  · rfl
def isD : D → D → Option D
  | x, .non => some (.bl (isNon x))
  | _, _ => none
def isntD : D → D → Option D
  | x, .non => some (.bl (!isNon x))
  | _, _ => none
theorem p_is {K : PySem.W.Frag} : Prim2 K T (fun x y H Q => y = .non ∧ Q (.bl (decide (x = .non))) H) isD := fun S H x y dx dy d Q e hx hy h g => by
  cases dy <;> first | cases h | skip
  refine ⟨hy.non, ?_⟩
  rw [isNon_of hx]; exact g.now e rfl
theorem p_isnt {K : PySem.W.Frag} : Prim2 K T (fun x y H Q => y = .non ∧ Q (.bl (!decide (x = .non))) H) isntD := fun S H x y dx dy d Q e hx hy h g => by
  cases dy <;> first | cases h | skip
  refine ⟨hy.non, ?_⟩
  rw [isNon_of hx]; exact g.now e rfl
/-- in: flat things in a list, a tuple; a text in a text -/
def inStr (x y : Str) : Bool := !(Builtin.Str.occurrences y x 0 y.length 1).isEmpty
def anyEq (x : D) (ys : List D) : Bool := ys.any fun y => deq y x
def inD : D → D → Option D
  | .str x, .str y => some (.bl (inStr x y))
  | x, .lst ys => if x.flat && ys.all D.flat then some (.bl (anyEq x ys)) else none
  | x, .tup ys => if x.flat && ys.all D.flat then some (.bl (anyEq x ys)) else none
  | _, _ => none
def ninD : D → D → Option D
  | .str x, .str y => some (.bl (!inStr x y))
  | x, .lst ys => if x.flat && ys.all D.flat then some (.bl (!anyEq x ys)) else none
  | x, .tup ys => if x.flat && ys.all D.flat then some (.bl (!anyEq x ys)) else none
  | _, _ => none
theorem flat_V {K : PySem.W.Frag} {S : Hp} {d : D} {v : V} (h : d.flat = true) (r : Rp K T S d v) : flatV v = true := by
  cases d <;> first | cases h | skip
  · rw [show v = _ from r]; rfl
  · rw [show v = _ from r]; rfl
  · rw [show v = _ from r]; rfl
  · rw [show v = _ from r]; rfl
theorem eqV_of {K : PySem.W.Frag} {S : Hp} {d e : D} {v w : V} (hd : d.flat = true) (he : e.flat = true) (r : Rp K T S d v) (q : Rp K T S e w) : eqV v w = deq d e := by
  cases d <;> first | cases hd | skip
  all_goals (cases e <;> first | cases he | skip)
  all_goals (rw [show v = _ from r, show w = _ from q]; simp [eqV, deq])
theorem Rps.flatV : ∀ {K : PySem.W.Frag} {S : Hp} {ds : List D} {vs : List V}, ds.all D.flat = true → Rps K T S ds vs → vs.all L2.flatV = true
  | _, _, [], _, _, r => by rw [show _ = [] from r]; rfl
  | _, _, d :: ds, _, h, ⟨v, r, e1, h1, hs⟩ => by
    rw [List.all_cons, Bool.and_eq_true] at h
    rw [e1, List.all_cons, flat_V h.1 h1, Rps.flatV h.2 hs]; rfl
theorem Rps.inV {K : PySem.W.Frag} {S : Hp} {x : D} {u : V} (hx : x.flat = true) (rx : Rp K T S x u) : ∀ {ds : List D} {vs : List V}, ds.all D.flat = true → Rps K T S ds vs → L2.inV u vs = anyEq x ds
  | [], _, _, r => by rw [show _ = [] from r]; rfl
  | d :: ds, _, h, ⟨v, r, e1, h1, hs⟩ => by
    rw [List.all_cons, Bool.and_eq_true] at h
    rw [e1]
    unfold L2.inV anyEq
    rw [List.any_cons, List.any_cons, eqV_of h.1 hx h1 rx]
    have := Rps.inV hx rx h.2 hs
    unfold L2.inV anyEq at this
    rw [this]
def rIn2 (K : PySem.W.Frag) (neg : Bool) : R2 := fun x y H Q => (∃ i j, x = .str i ∧ y = .str j ∧ Q (.bl (if neg then !inStr i j else inStr i j)) H) ∨ rIn K neg x y H Q
theorem op_inA : OpR X (compareOp .In) (rIn2 X.K false) := op_in_str.or op_in_seq
theorem op_ninA : OpR X (compareOp .NotIn) (rIn2 X.K true) := op_notin_str.or op_notIn_seq
theorem RpH.flat {K : PySem.W.Frag} {S H : Hp} {d : D} {v : V} (h : RpH K T S H d v) (hf : d.flat = true) : Rp K T S d v := by
  rcases h with h | ⟨_, _, _, _, rfl, _⟩
  · exact h
  · cases hf
theorem p_in {K : PySem.W.Frag} : Prim2 K T (rIn2 K false) inD := fun S H x y dx dy d Q e hx hy h g => by
  unfold inD at h
  split at h
  · cases h; exact .inl ⟨_, _, hx.str, hy.str, g.now e rfl⟩
  · split at h
    · rename_i hb
      cases h
      rw [Bool.and_eq_true] at hb
      obtain ⟨a, vs, rfl, q, r⟩ := hy.lst e
      refine .inr ⟨a, vs, rfl, .inl (SqL.of q), flat_V hb.1 (hx.flat hb.1), Rps.flatV hb.2 r, ?_⟩
      rw [Rps.inV hb.1 (hx.flat hb.1) hb.2 r]; exact g.now e rfl
    · cases h
  · split at h
    · rename_i hb
      cases h
      rw [Bool.and_eq_true] at hb
      obtain ⟨a, vs, rfl, q, r⟩ := hy.tup e
      refine .inr ⟨a, vs, rfl, .inr q, flat_V hb.1 (hx.flat hb.1), Rps.flatV hb.2 r, ?_⟩
      rw [Rps.inV hb.1 (hx.flat hb.1) hb.2 r]; exact g.now e rfl
    · cases h
  · cases h
theorem p_nin {K : PySem.W.Frag} : Prim2 K T (rIn2 K true) ninD := fun S H x y dx dy d Q e hx hy h g => by
  unfold ninD at h
  split at h
  · cases h; exact .inl ⟨_, _, hx.str, hy.str, g.now e rfl⟩
  · split at h
    · rename_i hb
      cases h
      rw [Bool.and_eq_true] at hb
      obtain ⟨a, vs, rfl, q, r⟩ := hy.lst e
      refine .inr ⟨a, vs, rfl, .inl (SqL.of q), flat_V hb.1 (hx.flat hb.1), Rps.flatV hb.2 r, ?_⟩
      rw [Rps.inV hb.1 (hx.flat hb.1) hb.2 r]; exact g.now e rfl
    · cases h
  · split at h
    · rename_i hb
      cases h
      rw [Bool.and_eq_true] at hb
      obtain ⟨a, vs, rfl, q, r⟩ := hy.tup e
      refine .inr ⟨a, vs, rfl, .inr q, flat_V hb.1 (hx.flat hb.1), Rps.flatV hb.2 r, ?_⟩
      rw [Rps.inV hb.1 (hx.flat hb.1) hb.2 r]; exact g.now e rfl
    · cases h
  · cases h
end
end Lq
namespace Lq
open PySem PySem.Spec PyProof.Rows L2
section
variable {K : PySem.W.Frag} {T : Tb} {S H : Hp}
theorem RpHs.one {d : D} {us : List V} (h : RpHs K T S H [d] us) : ∃ u, us = [u] ∧ RpH K T S H d u := by
  obtain ⟨u, r, e1, h1, h2⟩ := h
  rw [show r = [] from h2] at e1
  exact ⟨u, e1, h1⟩
theorem RpHs.two {d e : D} {us : List V} (h : RpHs K T S H [d, e] us) : ∃ u v, us = [u, v] ∧ RpH K T S H d u ∧ RpH K T S H e v := by
  obtain ⟨u, r, e1, h1, h2⟩ := h
  obtain ⟨v, e2, h3⟩ := h2.one
  rw [e2] at e1
  exact ⟨u, v, e1, h1, h3⟩
theorem RpH.scr {ns : List Int} {v : V} (h : RpH K T S H (.scr ns) v) (e : Same S H) : ∃ a, v = .ref a ∧ SqL K H a (ns.map V.int) := by
  rcases h with ⟨a, e1, q⟩ | ⟨_, _, _, _, e2, _⟩
  · exact ⟨a, e1, e.seq q⟩
  · cases e2
/-- len -/
def lenD : List D → Option D
  | [.lst xs] => some (.int xs.length)
  | [.tup xs] => some (.int xs.length)
  | [.scr ns] => some (.int ns.length)
  | [.str s] => if fits s.length then some (.int s.length) else none
  | _ => none
theorem p_len : PrimN K T (fun xs H Q => ∃ x n, xs = [x] ∧ LenV K x H n ∧ Q (.int n) H) lenD := fun S H xs ds d Q e h hg g => by
  unfold lenD at hg
  split at hg
  · cases hg
    obtain ⟨u, rfl, hu⟩ := h.one
    obtain ⟨a, vs, rfl, q, r⟩ := hu.lst e
    exact ⟨_, _, rfl, .inl ⟨vs, SqL.of q, r.len.symm⟩, g.now e rfl⟩
  · cases hg
    obtain ⟨u, rfl, hu⟩ := h.one
    obtain ⟨a, vs, rfl, q, r⟩ := hu.tup e
    exact ⟨_, _, rfl, .inr ⟨vs, q, r.len.symm⟩, g.now e rfl⟩
  · cases hg
    obtain ⟨u, rfl, hu⟩ := h.one
    obtain ⟨a, rfl, q⟩ := hu.scr e
    exact ⟨_, _, rfl, .inl ⟨_, q, (List.length_map ..).symm⟩, g.now e rfl⟩
  · split at hg
    · rename_i hf
      cases hg
      obtain ⟨u, rfl, hu⟩ := h.one
      rw [hu.str]
      exact ⟨_, _, rfl, ⟨fits_line hf, rfl⟩, g.now e rfl⟩
    · cases hg
  · cases hg
/-- subscripts -/
def atD : D → D → Option D
  | .lst xs, .int i => atI xs i
  | .tup xs, .int i => atI xs i
  | .scr ns, .int i => (atI ns i).map D.int
  | .str s, .int i => if fits s.length then (atI s.cps.toList i).map fun c => D.str ⟨#[c]⟩ else none
  | _, _ => none
theorem atI_rps {ds : List D} {vs : List V} {i : Int} {d : D} (r : Rps K T S ds vs) (h : atI ds i = some d) : ∃ v, atI vs i = some v ∧ Rp K T S d v := by
  unfold atI at h ⊢
  rw [r.len]
  cases q : ixN ds.length i with
  | none => rw [q] at h; cases h
  | some j =>
    rw [q] at h
    obtain ⟨v, h1, h2⟩ := r.get (show ds[j]? = some d from h)
    exact ⟨v, h1, h2⟩
theorem p_ix : Prim2 K T (rIx K) atD := fun S H x y dx dy d Q e hx hy h g => by
  unfold atD at h
  split at h
  · obtain ⟨a, vs, rfl, q, r⟩ := hx.lst e
    obtain ⟨v, hv, rv⟩ := atI_rps r h
    exact .inl ⟨a, vs, _, v, rfl, hy.int, SqL.of q, hv, g.now e rv⟩
  · obtain ⟨a, vs, rfl, q, r⟩ := hx.tup e
    obtain ⟨v, hv, rv⟩ := atI_rps r h
    exact .inr (.inl ⟨a, vs, _, v, rfl, hy.int, q, hv, g.now e rv⟩)
  · rename_i ns i
    obtain ⟨a, rfl, q⟩ := hx.scr e
    cases z : atI ns i with
    | none => rw [z] at h; cases h
    | some k =>
      rw [z] at h
      cases h
      have hz : atI (ns.map V.int) i = some (.int k) := by
        unfold atI at z ⊢
        rw [List.length_map]
        cases y : ixN ns.length i with
        | none => rw [y] at z; cases z
        | some j =>
          rw [y] at z
          have z' : ns[j]? = some k := z
          show (ns.map V.int)[j]? = _
          rw [List.getElem?_map, z']; rfl
      exact .inl ⟨a, _, _, _, rfl, hy.int, q, hz, g.now e rfl⟩
  · split at h
    · rename_i s i hf
      cases q : atI s.cps.toList i with
      | none => rw [q] at h; cases h
      | some c =>
        rw [q] at h
        cases h
        exact .inr (.inr ⟨s, i, c, hx.str, hy.int, fits_line hf, q, g.now e rfl⟩)
    · cases h
  · cases h
/-- slices -/
def cutL {α : Type} (xs : List α) (lo hi : Option Int) : List α := (xs.drop (HT.sIx xs.length 0 lo)).take (HT.sIx xs.length xs.length hi - HT.sIx xs.length 0 lo)
def cutD (x : D) (lo hi : Option Int) : Option D := match x with
  | .lst xs => some (.lst (cutL xs lo hi))
  | .tup xs => some (.tup (cutL xs lo hi))
  | .scr ns => some (.lst (cutL (ns.map D.int) lo hi))
  | .str s => if fits s.length then some (.str (cutS s lo hi)) else none
  | _ => none
theorem Rps.cut {ds : List D} {vs : List V} (r : Rps K T S ds vs) (lo hi : Option Int) : Rps K T S (cutL ds lo hi) (cutV vs lo hi) := by
  unfold cutL cutV
  rw [r.len]
  exact (r.drop _).take _
theorem cutL_whole {α : Type} {xs : List α} {lo hi : Option Int} (h : HT.sIx xs.length 0 lo = 0 ∧ HT.sIx xs.length xs.length hi = xs.length) : cutL xs lo hi = xs := by
  unfold cutL
  rw [h.1, h.2, List.drop_zero, Nat.sub_zero, List.take_length]
def rSl3 (K : PySem.W.Frag) : V → Option Int → Option Int → Hp → VK → Prop := fun x lo hi H Q => rSlL K x lo hi H Q ∨ rSlA K x lo hi H Q ∨ rSlS x lo hi H Q
theorem sl_any {X : Cx} : L2.SlR X (rSl3 X.K) := sl_list.or (sl_tupA.or sl_str)
theorem p_sl {x : V} {dx d : D} {lo hi : Option Int} {Q : VK} (e : Same S H) (hx : RpH K T S H dx x) (h : cutD dx lo hi = some d) (g : Gv K T S H d Q) : rSl3 K x lo hi H Q := by
  unfold cutD at h
  split at h
  · cases h
    obtain ⟨a, vs, rfl, q, r⟩ := hx.lst e
    exact .inl ⟨a, vs, rfl, SqL.of q, fun p hp => g.newL e (r.cut lo hi) p hp⟩
  · rename_i xs
    cases h
    obtain ⟨a, vs, rfl, q, r⟩ := hx.tup e
    refine .inr (.inl ⟨a, vs, rfl, q, fun hw => ?_, fun _ p hp => g.newT e (r.cut lo hi) p hp⟩)
    rw [r.len] at hw
    rw [cutL_whole hw] at g
    rcases hx with hx | ⟨_, _, _, _, ee, _⟩
    · exact g.now e hx
    · cases ee
  · cases h
    obtain ⟨a, rfl, q⟩ := hx.scr e
    exact .inl ⟨a, _, rfl, q, fun p hp => g.newL e ((Rps.ints _).cut lo hi) p hp⟩
  · split at h
    · rename_i hf
      cases h
      exact .inr (.inr ⟨_, hx.str, fits_line hf, g.now e rfl⟩)
    · cases h
  · cases h
/-- the parts of a slice -/
def rOp (K : PySem.W.Frag) (T : Tb) (W : WX) (f : Rho → R (Option Int)) : TO := rG K T W (fun _ _ (b c : Option Int) => b = c) f
def noPart : Rho → R (Option Int) := fun ρ => .ok none ρ
def aPart (fa : Rho → R VD) : Rho → R (Option Int) := fun ρ => (fa ρ).bind fun v ρ1 => match v with | .d (.int i) => .ok (some i) ρ1 | _ => .bad
end
def XO (X : Cx) (T : Tb) (W : WX) (e : Option Expr) (f : Rho → R (Option Int)) : Prop := PO X e (rOp X.K T W f)
section
variable {X : Cx} {T : Tb} {W : WX} {a b c e o : Expr} {es : List Expr} {fa fb fc fo : Rho → R VD} {fs : Rho → R (List VD)} {ft fu : Rho → R Bool} {pos : Pos}
theorem xo_none : XO X T W none noPart := ⟨fun pins s σ H Q I h => po_none.run pins s σ H Q I (by
  obtain ⟨β, G, S, ρ, o, p⟩ := h
  exact p S H none (Same.refl _) o rfl)⟩
theorem xo_some (he : XE X T W e fa) : XO X T W (some e) (aPart fa) := ⟨fun pins s σ H Q I h => (po_some he).run pins s σ H Q I (by
  obtain ⟨β, G, S, ρ, o, p⟩ := h
  refine ⟨β, G, S, ρ, o, Post.thn (Rl := RpV X.K T σ) p fun S1 H1 ρ1 v u e1 o1 h1 p1 => ?_⟩
  split at p1
  · exact ⟨_, h1, p1 S1 H1 _ (Same.refl _) o1 rfl⟩
  · exact p1.elim)⟩
def slE (fa : Rho → R VD) (fl fh : Rho → R (Option Int)) : Rho → R VD := fun ρ => (fa ρ).bind fun v ρ1 => (fl ρ1).bind fun l ρ2 => (fh ρ2).bind fun h ρ3 => match res v ρ3 with
  | some x => (match cutD x l h with | some d => .ok (.d d) ρ3 | none => .bad)
  | none => .bad
theorem xe_sl {lo hi : Option Expr} {fl fh : Rho → R (Option Int)} {p2 : Pos} (he : XE X T W e fa) (hl : XO X T W lo fl) (hh : XO X T W hi fh) : XE X T W (.Subscript e (.Slice lo hi none p2) pos) (slE fa fl fh) :=
  (pe_slice sl_any he hl hh).impQ fun σ H Q h => by
    obtain ⟨β, G, S, ρ, o, p⟩ := h
    refine ⟨β, G, S, ρ, o, Post.thn (Rl := RpV X.K T σ) p fun S1 H1 ρ1 v u e1 o1 h1 p1 => ?_⟩
    refine ⟨β, G, S1, ρ1, o1, Post.thn (Rl := fun _ (b c : Option Int) => b = c) p1 fun S2 H2 ρ2 l l' e2 o2 h2 p2 => ?_⟩
    refine ⟨β, G, S2, ρ2, o2, Post.thn (Rl := fun _ (b c : Option Int) => b = c) p2 fun S3 H3 ρ3 k k' e3 o3 h3 p3 => ?_⟩
    subst h2; subst h3
    split at p3
    · rename_i x q
      split at p3
      · rename_i d q2
        exact p_sl o3.sh (o3.res (h1.mono (e2.trans e3)) q) q2 (p3.gv o3)
      · exact p3.elim
    · exact p3.elim

/-! ### a < b <= c -/
def chainE (g g' : D → D → Option D) (fa fb fc : Rho → R VD) : Rho → R VD := fun ρ => (fa ρ).bind fun v ρ1 => (fb ρ1).bind fun w ρ2 => match v, w with
  | .d x, .d y => (match g x y with
    | some (.bl true) => (fc ρ2).bind fun z ρ3 => (match z with | .d u => (match g' y u with | some d => .ok (.d d) ρ3 | none => .bad) | _ => .bad)
    | some (.bl false) => .ok (.d (.bl false)) ρ2
    | _ => .bad)
  | _, _ => .bad
theorem tChain_of {K : PySem.W.Frag} {g g' : D → D → Option D} {r r' : R2} {σ : L2.St} {H : Hp} {Q : VK} (hp : Prim2 K T r g) (hp' : Prim2 K T r' g') (h : rE K T W (chainE g g' fa fb fc) σ H Q) : tChain r r' (rE K T W fa) (rE K T W fb) (rE K T W fc) σ H Q := by
  obtain ⟨β, G, S, ρ, o, p⟩ := h
  refine ⟨β, G, S, ρ, o, Post.thn (Rl := RpV K T σ) p fun S1 H1 ρ1 v u e1 o1 h1 p1 => ?_⟩
  refine ⟨β, G, S1, ρ1, o1, Post.thn (Rl := RpV K T σ) p1 fun S2 H2 ρ2 w z e2 o2 h2 p2 => ?_⟩
  split at p2
  case h_2 => exact p2.elim
  case h_1 x y =>
  have hx : RpH K T S2 H2 x u := .inl (Rp.mono e2 _ _ h1)
  have hy : RpH K T S2 H2 y z := .inl h2
  split at p2
  · rename_i q
    refine hp S2 H2 u z x y _ _ o2.sh hx hy q fun S3 H3 t e3 r3 => ⟨true, r3, iteT ⟨β, G, S3, ρ2, o2.ext e3, ?_⟩⟩
    refine Post.thn (Rl := RpV K T σ) (Post.mono p2 e3.s) fun S4 H4 ρ4 w' t' e4 o4 h4 p4 => ?_
    split at p4
    · split at p4
      · rename_i q4
        exact hp' S4 H4 z t' y _ _ Q o4.sh (.inl (Rp.mono (e3.s.trans e4) _ _ h2)) (.inl h4) q4 (p4.gv o4)
      · exact p4.elim
    · exact p4.elim
  · rename_i q
    exact hp S2 H2 u z x y _ _ o2.sh hx hy q fun S3 H3 t e3 r3 => ⟨false, r3, iteF (p2 S3 H3 (.bl false) e3.s (o2.ext e3) rfl)⟩
  · exact p2.elim
theorem xe_chain {op op' : CmpOp} {r r' : R2} {g g' : D → D → Option D} (ho : OpR X (compareOp op) r) (hp : Prim2 X.K T r g) (ho' : OpR X (compareOp op') r') (hp' : Prim2 X.K T r' g') (ha : XE X T W a fa) (hb : XE X T W b fb) (hc : XE X T W c fc)
    (hm : lastMarks [op, op'] [b, c] = false := by with_unfolding_all rfl) : XE X T W (.Compare a [op, op'] [b, c] pos) (chainE g g' fa fb fc) := (pe_chain ho ho' ha hb hc hm).impQ fun σ H Q h => tChain_of hp hp' h
theorem xt_chain {op op' : CmpOp} {r r' : R2} {g g' : D → D → Option D} (ho : OpR X (compareOp op) r) (hp : Prim2 X.K T r g) (ho' : OpR X (compareOp op') r') (hp' : Prim2 X.K T r' g') (ha : XE X T W a fa) (hb : XE X T W b fb) (hc : XE X T W c fc)
    (hm : lastMarks [op, op'] [b, c] = false := by with_unfolding_all rfl) : XT X T W (.Compare a [op, op'] [b, c] pos) (valT (chainE g g' fa fb fc)) :=
  (pt_chain ho ho' ha hb hc hm).impQ fun σ H Q h => valT_of (t := tChain r r' (rE X.K T W fa) (rE X.K T W fb) (rE X.K T W fc)) (fun _ q => tChain_of hp hp' q) h

/-! ### methods of texts -/
def strM (g : Str → List D → Option D) (fo : Rho → R VD) (fs : Rho → R (List VD)) : Rho → R VD := fun ρ => (fo ρ).bind fun v ρ1 => match v with
  | .d (.str s) => (fs ρ1).bind fun vs ρ2 => (match resAll vs ρ2 with | some xs => (match g s xs with | some d => .ok (.d d) ρ2 | none => .bad) | none => .bad)
  | _ => .bad
def PrimS (K : PySem.W.Frag) (T : Tb) (r : V → List V → Hp → VK → Prop) (g : Str → List D → Option D) : Prop := ∀ S H s xs ds d Q, Same S H → RpHs K T S H ds xs → g s ds = some d → Gv K T S H d Q → r (.str s) xs H Q
theorem xe_strM {name : Str} {id : String} {r : V → List V → Hp → VK → Prop} {g : Str → List D → Option D} {apos cpos : Pos} (slot : Slot "str" name id) (hty : typeOf (.builtin id) = pure (.type "method_descriptor")) (hm : MtR X id r) (hp : PrimS X.K T r g) (ho : XE X T W o fo) (ha : XA X T W (e :: es) fs)
    (hbase : attributeBase o name X.env (eval o X.env) = eval o X.env := by rfl)
    (hfew : ((backTo cpos (starEach (e :: es) X.env)).all (fun x => !x.1) && (backToKw cpos (keywordEach [] X.env)).all (fun x => x.1.isSome) && decide ((e :: es).length + ([] : List Keyword).length + (if ([] : List Keyword).isEmpty then 0 else 1) < 30)) = true := by rfl)
    (hline : (apos.endLine == cpos.line) = true := by rfl) (hs : starEach (e :: es) X.env = (false, eval e X.env) :: starEach es X.env := by rfl) (hplain : (backTo cpos (starEach es X.env)).any (·.1) = false := by rfl) :
    XE X T W (.Call (.Attribute o name apos) (e :: es) [] cpos) (strM g fo fs) :=
  (pe_bm PySem.F.plainAttrs_str slot hty hm ho ha hbase hfew hline hs hplain).impQ fun σ H Q h => by
    obtain ⟨β, G, S, ρ, o, p⟩ := h
    refine ⟨β, G, S, ρ, o, Post.thn (Rl := RpV X.K T σ) p fun S1 H1 ρ1 v u e1 o1 h1 p1 => ?_⟩
    split at p1
    · rename_i s
      rw [show u = .str s from h1]
      refine ⟨rfl, β, G, S1, ρ1, o1, Post.thn (Rl := RpVs X.K T σ) p1 fun S2 H2 ρ2 vs us e2 o2 h2 p2 => ?_⟩
      split at p2
      · rename_i xs q
        split at p2
        · rename_i d q2
          exact hp S2 H2 s us xs d Q o2.sh (o2.resAll h2 q) q2 (p2.gv o2)
        · exact p2.elim
      · exact p2.elim
    · exact p1.elim
def splitD (s : Str) : List D → Option D
  | [.str b] => if !(b.length == 0) && fits s.length then some (.lst ((Txt.split s b).map D.str)) else none
  | _ => none
theorem fits_two {n : Nat} (h : fits n = true) : n + 2 ≤ sizeLine := by
  have := of_decide_eq_true h
  rw [sizeLine_eq]; omega
theorem p_split {K : PySem.W.Frag} : PrimS K T (fun x xs H Q => ∃ a b, x = .str a ∧ xs = [.str b] ∧ (b.length == 0) = false ∧ a.length + 2 ≤ sizeLine ∧ rNewStrs (Txt.split a b) H Q) splitD := fun S H s xs ds d Q e h hg g => by
  unfold splitD at hg
  split at hg
  · split at hg
    · rename_i hb
      cases hg
      rw [Bool.and_eq_true, Bool.not_eq_true'] at hb
      obtain ⟨u, rfl, hu⟩ := h.one
      rw [hu.str]
      exact ⟨s, _, rfl, rfl, hb.1, fits_two hb.2, fun p hp => g.newL e (Rps.strs _) p hp⟩
    · cases hg
  · cases hg
def joinD (s : Str) : List D → Option D
  | [x] => (match x.items? with
    | some xs => (match allOf D.str? xs with
      | some ys => if decide ((ys.map (·.length)).sum + ys.length * s.length ≤ 16777216) then some (.str (Txt.join s ys)) else none
      | none => none)
    | none => none)
  | _ => none
theorem p_join {K : PySem.W.Frag} : PrimS K T (fun x xs H Q => ∃ a p, ∃ ys : List Str, x = .str a ∧ xs = [.ref p] ∧ (SqL K H p (ys.map V.str) ∨ SqT K H p (ys.map V.str)) ∧
    (ys.map (·.length)).sum + ys.length * a.length ≤ 16777216 ∧ Q (.str (Txt.join a ys)) H) joinD := fun S H s xs ds d Q e h hg g => by
  unfold joinD at hg
  split at hg
  case h_2 => cases hg
  case h_1 x =>
  obtain ⟨u, rfl, hu⟩ := h.one
  split at hg
  case h_2 => cases hg
  case h_1 ys q =>
  split at hg
  case h_2 => cases hg
  case h_1 zs q2 =>
  split at hg
  case isFalse => cases hg
  case isTrue hf =>
  cases hg
  have ez := allOf_strs q2
  subst ez
  cases x with
  | lst xs =>
    cases q
    obtain ⟨a, vs, rfl, q', r⟩ := hu.lst e
    have := r.strsV
    subst this
    exact ⟨s, a, zs, rfl, rfl, .inl (SqL.of q'), of_decide_eq_true hf, g.now e rfl⟩
  | tup xs =>
    cases q
    obtain ⟨a, vs, rfl, q', r⟩ := hu.tup e
    have := r.strsV
    subst this
    exact ⟨s, a, zs, rfl, rfl, .inr q', of_decide_eq_true hf, g.now e rfl⟩
  | _ => cases q

/-! ### built-ins -/
def tupleD : List D → Option D
  | [.lst xs] => some (.tup xs)
  | [.tup xs] => some (.tup xs)
  | _ => none
theorem p_tuple {K : PySem.W.Frag} : PrimN K T (fun xs H Q => ∃ p ys, xs = [.ref p] ∧ ((SqL K H p ys ∧ ∀ l, H l = none → Q (.ref l) (upd H l (.tup ys))) ∨ (SqT K H p ys ∧ Q (.ref p) H))) tupleD := fun S H xs ds d Q e h hg g => by
  unfold tupleD at hg
  split at hg
  · cases hg
    obtain ⟨u, rfl, hu⟩ := h.one
    obtain ⟨a, vs, rfl, q, r⟩ := hu.lst e
    exact ⟨a, vs, rfl, .inl ⟨SqL.of q, fun l hl => g.newT e r l hl⟩⟩
  · cases hg
    obtain ⟨u, rfl, hu⟩ := h.one
    obtain ⟨a, vs, rfl, q, r⟩ := hu.tup e
    rcases hu with hu | ⟨_, _, _, _, ee, _⟩
    · exact ⟨a, vs, rfl, .inr ⟨q, g.now e hu⟩⟩
    · cases ee
  · cases hg
def listF : List D → Option (List D)
  | [.lst xs] => some xs
  | [.tup xs] => some xs
  | _ => none
theorem p_list {K : PySem.W.Frag} : PrimNF K T (fun xs H Q => ∃ p ys, xs = [.ref p] ∧ (SqL K H p ys ∨ SqT K H p ys) ∧ ∀ l, H l = none → Q (.ref l) (upd H l (.lst ys))) listF := fun S H xs ds d Q e h hg g => by
  unfold listF at hg
  split at hg
  · cases hg
    obtain ⟨u, rfl, hu⟩ := h.one
    obtain ⟨a, vs, rfl, q, r⟩ := hu.lst e
    exact ⟨a, vs, rfl, .inl (SqL.of q), fun l hl => g.new e r l hl⟩
  · cases hg
    obtain ⟨u, rfl, hu⟩ := h.one
    obtain ⟨a, vs, rfl, q, r⟩ := hu.tup e
    exact ⟨a, vs, rfl, .inr q, fun l hl => g.new e r l hl⟩
  · cases hg
def allD : List D → Option D
  | [.lst xs] => (match allOf D.bl? xs with | some bs => some (.bl (bs.all id)) | none => none)
  | _ => none
def anyD : List D → Option D
  | [.lst xs] => (match allOf D.bl? xs with | some bs => some (.bl (bs.any id)) | none => none)
  | _ => none
def sumD : List D → Option D
  | [.lst xs] => (match allOf D.int? xs with | some bs => some (.int bs.sum) | none => none)
  | _ => none
theorem p_all {K : PySem.W.Frag} : PrimN K T (rAll K) allD := fun S H xs ds d Q e h hg g => by
  unfold allD at hg
  split at hg
  case h_2 => cases hg
  case h_1 ys =>
  split at hg
  case h_2 => cases hg
  case h_1 bs q =>
  cases hg
  have ez := allOf_bls q
  subst ez
  obtain ⟨u, rfl, hu⟩ := h.one
  obtain ⟨a, vs, rfl, q', r⟩ := hu.lst e
  have := r.blsV
  subst this
  exact ⟨a, bs, rfl, SqL.of q', g.now e rfl⟩
theorem p_any {K : PySem.W.Frag} : PrimN K T (rAny K) anyD := fun S H xs ds d Q e h hg g => by
  unfold anyD at hg
  split at hg
  case h_2 => cases hg
  case h_1 ys =>
  split at hg
  case h_2 => cases hg
  case h_1 bs q =>
  cases hg
  have ez := allOf_bls q
  subst ez
  obtain ⟨u, rfl, hu⟩ := h.one
  obtain ⟨a, vs, rfl, q', r⟩ := hu.lst e
  have := r.blsV
  subst this
  exact ⟨a, bs, rfl, SqL.of q', g.now e rfl⟩
theorem p_sum {K : PySem.W.Frag} : PrimN K T (rSum K) sumD := fun S H xs ds d Q e h hg g => by
  unfold sumD at hg
  split at hg
  case h_2 => cases hg
  case h_1 ys =>
  split at hg
  case h_2 => cases hg
  case h_1 bs q =>
  cases hg
  have ez := allOf_ints q
  subst ez
  obtain ⟨u, rfl, hu⟩ := h.one
  obtain ⟨a, vs, rfl, q', r⟩ := hu.lst e
  have := r.intsV
  subst this
  exact ⟨a, bs, rfl, SqL.of q', g.now e rfl⟩
def absD : List D → Option D
  | [.int i] => some (.int (if i < 0 then -i else i))
  | _ => none
theorem p_abs {K : PySem.W.Frag} : PrimN K T (fun xs H Q => ∃ i, xs = [.int i] ∧ Q (.int (if i < 0 then -i else i)) H) absD := fun S H xs ds d Q e h hg g => by
  unfold absD at hg
  split at hg
  · cases hg
    obtain ⟨u, rfl, hu⟩ := h.one
    rw [hu.int]
    exact ⟨_, rfl, g.now e rfl⟩
  · cases hg
def min2D : List D → Option D
  | [.int i, .int j] => some (.int (if j < i then j else i))
  | _ => none
def max2D : List D → Option D
  | [.int i, .int j] => some (.int (if j > i then j else i))
  | _ => none
theorem p_min2 {K : PySem.W.Frag} : PrimN K T (fun xs H Q => ∃ i j, xs = [.int i, .int j] ∧ Q (.int (if j < i then j else i)) H) min2D := fun S H xs ds d Q e h hg g => by
  unfold min2D at hg
  split at hg
  · cases hg
    obtain ⟨u, v, rfl, hu, hv⟩ := h.two
    rw [hu.int, hv.int]
    exact ⟨_, _, rfl, g.now e rfl⟩
  · cases hg
theorem p_max2 {K : PySem.W.Frag} : PrimN K T (fun xs H Q => ∃ i j, xs = [.int i, .int j] ∧ Q (.int (if j > i then j else i)) H) max2D := fun S H xs ds d Q e h hg g => by
  unfold max2D at hg
  split at hg
  · cases hg
    obtain ⟨u, v, rfl, hu, hv⟩ := h.two
    rw [hu.int, hv.int]
    exact ⟨_, _, rfl, g.now e rfl⟩
  · cases hg
/-- int of an int, a bool, a text -/
def intD : List D → Option D
  | [.int i] => some (.int i)
  | [.bl b] => some (.int (if b then 1 else 0))
  | [.str s] => if decide (s.length ≤ 640) then (PySem.intText? s).map D.int else none
  | _ => none
def rInt3 : List V → Hp → VK → Prop := fun xs H Q => ((∃ i, xs = [.int i] ∧ Q (.int i) H) ∨ ∃ k, xs = [.bl k] ∧ Q (.int (if k then 1 else 0)) H) ∨ ∃ a n, xs = [.str a] ∧ PySem.intText? a = some n ∧ a.length ≤ 640 ∧ Q (.int n) H
theorem call_intA : CallR X (.type "int") rInt3 := call_int1.or call_int_str
theorem p_int {K : PySem.W.Frag} : PrimN K T rInt3 intD := fun S H xs ds d Q e h hg g => by
  unfold intD at hg
  split at hg
  · cases hg
    obtain ⟨u, rfl, hu⟩ := h.one
    rw [hu.int]
    exact .inl (.inl ⟨_, rfl, g.now e rfl⟩)
  · cases hg
    obtain ⟨u, rfl, hu⟩ := h.one
    rw [hu.bl]
    exact .inl (.inr ⟨_, rfl, g.now e rfl⟩)
  · split at hg
    · rename_i s hf
      cases q : PySem.intText? s with
      | none => rw [q] at hg; cases hg
      | some n =>
        rw [q] at hg
        cases hg
        obtain ⟨u, rfl, hu⟩ := h.one
        rw [hu.str]
        exact .inr ⟨s, n, rfl, q, of_decide_eq_true hf, g.now e rfl⟩
    · cases hg
  · cases hg
def strD : List D → Option D
  | [.int i] => if decide (i.natAbs.log2 < 1920) then some (.str (toString i)) else none
  | _ => none
theorem p_str {K : PySem.W.Frag} : PrimN K T (fun xs H Q => ∃ i : Int, xs = [.int i] ∧ i.natAbs.log2 < 1920 ∧ Q (.str (toString i)) H) strD := fun S H xs ds d Q e h hg g => by
  unfold strD at hg
  split at hg
  · split at hg
    · rename_i hf
      cases hg
      obtain ⟨u, rfl, hu⟩ := h.one
      rw [hu.int]
      exact ⟨_, rfl, of_decide_eq_true hf, g.now e rfl⟩
    · cases hg
  · cases hg
end
end Lq
namespace Lq
open PySem PySem.Spec PyProof.Rows L2
/-! ### several values at once, new lists among them -/
inductive MV where
  | d (x : D)
  | f (ds : List D)
def Hold (K : PySem.W.Frag) (T : Tb) (S : Hp) : Hp → Hp → List MV → List V → Prop
  | G, G', [], us => us = [] ∧ G' = G
  | G, G', .d x :: ms, us => ∃ u r, us = u :: r ∧ Rp K T S x u ∧ Hold K T S G G' ms r
  | G, G', .f ds :: ms, us => ∃ p vs r, us = .ref p :: r ∧ G p = none ∧ Rps K T S ds vs ∧ Hold K T S (upd G p (.lst vs)) G' ms r
def PostM (K : PySem.W.Frag) (T : Tb) (W : WX) (β : Bt) (G S : Hp) (σ : L2.St) (r : R (List MV)) (Q : List V → Hp → Prop) : Prop := match r with
  | .ok ms ρ' => ∀ S' H' us G', Same S S' → Ok K T β G' S' σ ρ' H' → Hold K T S' G G' ms us → Q us H'
  | .err x ρ' => ∀ S' H' c d, Same S S' → Ok K T β G S' σ ρ' H' → XR K T S' x c d → W c d σ H'
  | .bad => False
def rM (K : PySem.W.Frag) (T : Tb) (W : WX) (f : Rho → R (List MV)) : TA := fun σ H Q => ∃ β G S ρ, Ok K T β G S σ ρ H ∧ PostM K T W β G S σ (f ρ) Q
def XM (X : Cx) (T : Tb) (W : WX) (es : List Expr) (f : Rho → R (List MV)) : Prop := PA X es (rM X.K T W f)
section
variable {K : PySem.W.Frag} {T : Tb} {W : WX} {β : Bt} {G S S' H : Hp} {σ : L2.St} {ρ : Rho}
theorem Ok.guardHere (o : Ok K T β G S σ ρ H) {p : Addr} {us : List V} (f : Fre β G S σ ρ p) (h : H p = some (.lst us)) : Ok K T β (upd G p (.lst us)) S σ ρ H where
  sh := o.sh
  gh := fun b v q => by
    by_cases hb : b = p
    · subst hb; rw [upd_same] at q; rw [← q]; exact h
    · rw [upd_ne hb] at q; exact o.gh b v q
  gs := fun b v q => by
    by_cases hb : b = p
    · subst hb; exact f.s
    · rw [upd_ne hb] at q; exact o.gs b v q
  gb := fun b q => by
    have hb : b ≠ p := fun z => f.b (by rw [q, z])
    rw [upd_ne hb]; exact o.gb b q
  bx := o.bx
  len := o.len
  cel := fun i c q => by
    have h1 := o.cel i c q
    cases c with
    | no => trivial
    | d x => exact h1
    | m xs =>
      obtain ⟨a, vs, e1, e2, e3, e4, e5, r⟩ := h1
      have hb : a ≠ p := fun z => f.sl i xs q (by rw [e1, z])
      exact ⟨a, vs, e1, e2, e3, by rw [upd_ne hb]; exact e4, e5, r⟩
    | b ns => exact h1
    | s t =>
      obtain ⟨a, dx, e1, e2, e3, e4, e5, e6, e7, e8⟩ := h1
      exact ⟨a, dx, e1, e2, e3, e4, e5, by rw [upd_ne (fun z => by rw [z, h] at e4; cases e4)]; exact e6, e7, by rw [upd_ne (fun z => by rw [z, h] at e3; cases e3)]; exact e8⟩
  dis := o.dis
def nilM : Rho → R (List MV) := fun ρ => .ok [] ρ
def consMd (fa : Rho → R VD) (fm : Rho → R (List MV)) : Rho → R (List MV) := fun ρ => (fa ρ).bind fun v ρ1 => match v with | .d x => (fm ρ1).bind fun ms ρ2 => .ok (.d x :: ms) ρ2 | .sl _ => .bad
def consMf (f : Rho → R (List D)) (fm : Rho → R (List MV)) : Rho → R (List MV) := fun ρ => (f ρ).bind fun ds ρ1 => (fm ρ1).bind fun ms ρ2 => .ok (.f ds :: ms) ρ2
theorem xm_nil {X : Cx} : XM X T W [] nilM := pa_nil.impQ fun σ H Q h => by
  obtain ⟨β, G, S, ρ, o, p⟩ := h
  exact p S H [] G (Same.refl _) o ⟨rfl, rfl⟩
theorem PostM.mono {r : R (List MV)} {Q : List V → Hp → Prop} (h : PostM K T W β G S σ r Q) (e : Same S S') : PostM K T W β G S' σ r Q := by
  cases r with
  | ok a ρ' => exact fun S2 H2 us G' e2 o => h S2 H2 us G' (e.trans e2) o
  | err x ρ' => exact fun S2 H2 c d e2 o => h S2 H2 c d (e.trans e2) o
  | bad => exact h
/-- what a wish about errors says with less guarded -/
theorem xm_d {X : Cx} {e : Expr} {es : List Expr} {fa : Rho → R VD} {fm : Rho → R (List MV)} (ha : XE X T W e fa) (hs : XM X T W es fm) (hst : starEach (e :: es) X.env = (false, eval e X.env) :: starEach es X.env := by rfl) : XM X T W (e :: es) (consMd fa fm) := (pa_cons ha hs hst).impQ fun σ H Q h => by
  obtain ⟨β, G, S, ρ, o, p⟩ := h
  refine ⟨β, G, S, ρ, o, ?_⟩
  unfold consMd at p
  revert p
  cases fa ρ with
  | bad => exact fun p => p
  | err x ρ1 => exact fun p => p
  | ok v ρ1 =>
    intro p S1 H1 u e1 o1 h1
    dsimp only [R.bind] at p
    cases v with
    | sl i => exact p.elim
    | d x =>
      refine ⟨β, G, S1, ρ1, o1, ?_⟩
      dsimp only at p
      have p' := PostM.mono p e1
      revert p'
      cases fm ρ1 with
      | bad => exact fun p => p
      | err y ρ2 => exact fun p => p
      | ok ms ρ2 => exact fun p S2 H2 us G' e2 o2 h2 => p S2 H2 _ G' e2 o2 ⟨u, us, rfl, Rp.mono e2 _ _ h1, h2⟩
/-- the errors of the rest must not come while a new list is held -/
def noErr (r : R (List MV)) : R (List MV) := match r with | .err _ _ => .bad | r => r
def consMf' (f : Rho → R (List D)) (fm : Rho → R (List MV)) : Rho → R (List MV) := fun ρ => (f ρ).bind fun ds ρ1 => (noErr (fm ρ1)).bind fun ms ρ2 => .ok (.f ds :: ms) ρ2
theorem xm_f {X : Cx} {e : Expr} {es : List Expr} {f : Rho → R (List D)} {fm : Rho → R (List MV)} (ha : XF X T W e f) (hs : XM X T W es fm) (hst : starEach (e :: es) X.env = (false, eval e X.env) :: starEach es X.env := by rfl) : XM X T W (e :: es) (consMf' f fm) := (pa_cons ha hs hst).impQ fun σ H Q h => by
  obtain ⟨β, G, S, ρ, o, p⟩ := h
  refine ⟨β, G, S, ρ, o, ?_⟩
  unfold consMf' at p
  revert p
  cases f ρ with
  | bad => exact fun p => p
  | err x ρ1 => exact fun p => p
  | ok ds ρ1 =>
    intro p S1 H1 a vs e1 o1 fr hv h1
    dsimp only [R.bind] at p
    refine ⟨β, upd G a (.lst vs), S1, ρ1, o1.guardHere fr hv, ?_⟩
    have p' := PostM.mono p e1
    revert p'
    cases fm ρ1 with
    | bad => exact fun p => p
    | err y ρ2 => exact fun p => p.elim
    | ok ms ρ2 => exact fun p S2 H2 us G' e2 o2 h2 => p S2 H2 _ G' e2 o2 ⟨a, vs, us, rfl, fr.g, Rps.mono e2 _ _ h1, h2⟩
/-- the names take them -/
def setsS (σ : L2.St) : List Nat → List V → L2.St
  | i :: is, u :: us => setsS (σ.set i (some u)) is us
  | _, _ => σ
def setsR (ρ : Rho) : List Nat → List MV → Rho
  | i :: is, .d x :: ms => setsR (ρ.set i (.d x)) is ms
  | i :: is, .f ds :: ms => setsR (ρ.set i (.m ds)) is ms
  | _, _ => ρ
theorem setsS_out {i : Nat} {v : Option V} : ∀ {is : List Nat} {us : List V} {σ : L2.St}, i ∉ is → setsS (σ.set i v) is us = (setsS σ is us).set i v
  | [], _, _, _ => by unfold setsS; rfl
  | j :: is, [], _, _ => by unfold setsS; rfl
  | j :: is, u :: us, σ, h => by
    simp only [List.mem_cons, not_or] at h
    unfold setsS
    rw [List.set_comm _ _ h.1]
    exact setsS_out h.2
theorem setsR_out {i : Nat} {c : Cell} : ∀ {is : List Nat} {ms : List MV} {ρ : Rho}, i ∉ is → setsR (ρ.set i c) is ms = (setsR ρ is ms).set i c
  | [], _, _, _ => by unfold setsR; rfl
  | j :: is, [], _, _ => by unfold setsR; rfl
  | j :: is, .d x :: ms, ρ, h => by
    simp only [List.mem_cons, not_or] at h
    unfold setsR
    rw [List.set_comm _ _ h.1]
    exact setsR_out h.2
  | j :: is, .f x :: ms, ρ, h => by
    simp only [List.mem_cons, not_or] at h
    unfold setsR
    rw [List.set_comm _ _ h.1]
    exact setsR_out h.2
theorem Ok.sets : ∀ {is : List Nat} {ms : List MV} {us : List V} {G G' : Hp}, is.Nodup → is.length = ms.length → Ok K T β G' S σ ρ H → Hold K T S G G' ms us → Ok K T β G S (setsS σ is us) (setsR ρ is ms) H
  | [], [], us, G, G', _, _, o, h => by
    obtain ⟨rfl, rfl⟩ := h
    unfold setsS setsR; exact o
  | i :: is, .d x :: ms, us, G, G', hn, hl, o, ⟨u, r, e1, rx, hs⟩ => by
    have hn' := List.nodup_cons.mp hn
    subst e1
    unfold setsS setsR
    rw [setsS_out hn'.1, setsR_out hn'.1]
    exact (Ok.sets hn'.2 (by simpa using hl) o hs).setD rx
  | i :: is, .f ds :: ms, us, G, G', hn, hl, o, ⟨p, vs, r, e1, hg, rx, hs⟩ => by
    have hn' := List.nodup_cons.mp hn
    subst e1
    unfold setsS setsR
    rw [setsS_out hn'.1, setsR_out hn'.1]
    obtain ⟨o1, fr, hv⟩ := (Ok.sets hn'.2 (by simpa using hl) o hs).unguard hg
    exact o1.setM fr hv rx
  | [], _ :: _, _, _, _, _, hl, _, _ => by cases hl
  | _ :: _, [], _, _, _, _, hl, _, _ => by cases hl
theorem Hold.len : ∀ {ms : List MV} {us : List V} {G G' : Hp}, Hold K T S G G' ms us → us.length = ms.length
  | [], _, _, _, ⟨h, _⟩ => by rw [h]; rfl
  | .d x :: ms, _, _, _, ⟨u, r, e1, _, hs⟩ => by rw [e1, List.length_cons, List.length_cons, Hold.len hs]
  | .f x :: ms, _, _, _, ⟨p, vs, r, e1, _, _, hs⟩ => by rw [e1, List.length_cons, List.length_cons, Hold.len hs]
def parS (is : List Nat) (fm : Rho → R (List MV)) : Rho → O := fun ρ => (fm ρ).thnO fun ms ρ1 => if is.length = ms.length then .nx (setsR ρ1 is ms) else .bad
theorem par_of {is : List Nat} {fm : Rho → R (List MV)} {De : Ends} {Q' : List V → Hp → Prop} (hn : is.Nodup) (h : rS K T W (parS is fm) De σ H)
    (hq : ∀ us H1, us.length = is.length → (∀ H2, Same H1 H2 → (∃ q u, H1 q = none ∧ H2 = upd H1 q u) ∨ H2 = H1 → De.nx (setsS σ is us) H2) → Q' us H1) : rM K T W fm σ H Q' := by
  obtain ⟨β, G, S, ρ, o, p⟩ := h
  refine ⟨β, G, S, ρ, o, ?_⟩
  unfold parS at p
  revert p
  cases fm ρ with
  | bad => exact fun p => p
  | err x ρ1 => exact fun p S1 H1 c d e o q => p S1 σ H1 c d e o q
  | ok ms ρ1 =>
    intro p S1 H1 us G' e1 o1 h1
    dsimp only [R.thnO] at p
    by_cases hl : is.length = ms.length
    · rw [if_pos hl] at p
      have o2 := Ok.sets hn hl o1 h1
      refine hq us H1 (by rw [h1.len, hl]) fun H2 e2 hh => ?_
      rcases hh with ⟨q, u, hq1, rfl⟩ | rfl
      · exact p S1 _ _ e1 (o2.ext (Ext.skip o2.sh hq1))
      · exact p S1 _ _ e1 o2
    · rw [if_neg hl] at p; exact p.elim
end
section
variable {X : Cx} {T : Tb} {W : WX} {pos px py pz pt pt2 : Pos} {kt k2 : Nat} {a b c : Expr} {fm : Rho → R (List MV)}
theorem us2 {us : List V} (h : us.length = 2) : ∃ v w, us = [v, w] := by
  cases us with
  | nil => cases h
  | cons v r => cases r with
    | nil => cases h
    | cons w r => cases r with
      | nil => exact ⟨v, w, rfl⟩
      | cons _ _ => simp at h
theorem us3 {us : List V} (h : us.length = 3) : ∃ v w z, us = [v, w, z] := by
  cases us with
  | nil => cases h
  | cons v r =>
    obtain ⟨w, z, rfl⟩ := us2 (us := r) (by simpa using h)
    exact ⟨v, w, z, rfl⟩
/-- a, b = x, y (plain locals) -/
theorem xs_par2 (i j : Nat) {x y : Str} (hc : X.calm = true) (hN : X.N.Nodup) (ha : XM X T W [a, b] fm) (hw : swappedStores [.Tuple [.Name x px, .Name y py] kt pt] (.Tuple [a, b] k2 pt2) X.env = pure (some [x, y]) := by rfl) (hij : i ≠ j := by decide) (hi : X.N[i]? = some x := by rfl) (hj : X.N[j]? = some y := by rfl)
    (hx : X.env.scope.names.lookup x = some .local := by rfl) (hy : X.env.scope.names.lookup y = some .local := by rfl)
    (hs : swapsWithSole [.Tuple [.Name x px, .Name y py] kt pt] (.Tuple [a, b] k2 pt2) pos.line X.env = pure false := by rfl) :
    XS X T W (.Assign [.Tuple [.Name x px, .Name y py] kt pt] (.Tuple [a, b] k2 pt2) pos) (parS [i, j] fm) :=
  (ps_par hc hN hi hj hij hx hy ha hw hs).impQ fun De σ H q => par_of (is := [i, j]) (by simp [hij]) q fun us H1 hl k => by
    obtain ⟨v, w, rfl⟩ := us2 hl
    exact ⟨v, w, rfl, k H1 (Same.refl _) (.inr rfl)⟩
theorem xs_par3 (i j l : Nat) {x y z : Str} (hc : X.calm = true) (hN : X.N.Nodup) (ha : XM X T W [a, b, c] fm) (hw : swappedStores [.Tuple [.Name x px, .Name y py, .Name z pz] kt pt] (.Tuple [a, b, c] k2 pt2) X.env = pure (some [x, y, z]) := by rfl) (hij : i ≠ j := by decide) (hil : i ≠ l := by decide) (hjl : j ≠ l := by decide)
    (hi : X.N[i]? = some x := by rfl) (hj : X.N[j]? = some y := by rfl) (hl : X.N[l]? = some z := by rfl)
    (hx : X.env.scope.names.lookup x = some .local := by rfl) (hy : X.env.scope.names.lookup y = some .local := by rfl) (hz : X.env.scope.names.lookup z = some .local := by rfl)
    (hs : swapsWithSole [.Tuple [.Name x px, .Name y py, .Name z pz] kt pt] (.Tuple [a, b, c] k2 pt2) pos.line X.env = pure false := by rfl) :
    XS X T W (.Assign [.Tuple [.Name x px, .Name y py, .Name z pz] kt pt] (.Tuple [a, b, c] k2 pt2) pos) (parS [i, j, l] fm) :=
  (ps_par3 hc hN hi hj hl hij hil hjl hx hy hz ha hw hs).impQ fun De σ H q => par_of (is := [i, j, l]) (by simp [hij, hil, hjl]) q fun us H1 hl k => by
    obtain ⟨v, w, t, rfl⟩ := us3 hl
    exact ⟨v, w, t, rfl, k H1 (Same.refl _) (.inr rfl)⟩
/-- targets that are names, told by slots -/
def gNames : List Nat → TGs := fun is vs σ H Q => vs.length = is.length ∧ Q (setsS σ is vs) H
theorem pgs_names : ∀ {is : List Nat} {es : List Expr} {t : TGs}, PGs X es t → (∀ vs σ H Q, gNames is vs σ H Q → t vs σ H Q) → PGs X es (gNames is) := fun h i => h.impQ i
theorem gn_nil (vs : List V) (σ : L2.St) (H : Hp) (Q : L2.St → Hp → Prop) (h : gNames [] vs σ H Q) : gNil vs σ H Q := by
  obtain ⟨h1, h2⟩ := h
  have : vs = [] := List.length_eq_zero_iff.mp h1
  subst this
  exact ⟨rfl, h2⟩
theorem gn_cons {i : Nat} {is : List Nat} {u : TGs} (hu : ∀ vs σ H Q, gNames is vs σ H Q → u vs σ H Q) (vs : List V) (σ : L2.St) (H : Hp) (Q : L2.St → Hp → Prop) (h : gNames (i :: is) vs σ H Q) : gCons (gName i) u vs σ H Q := by
  obtain ⟨h1, h2⟩ := h
  cases vs with
  | nil => cases h1
  | cons v r => exact ⟨v, r, rfl, hu r _ H Q ⟨by simpa using h1, h2⟩⟩
/-- (names) = (values): the tuple is made and taken apart -/
theorem xs_parN {is : List Nat} {ts es : List Expr} {n : Nat} (hc : X.calm = true) (hn : is.Nodup) (hl : is.length = n) (hf : fits n = true) (ha : XM X T W es fm) (hg : PGs X ts (gNames is)) (hln : (assignEach ts X.env).length = n := by rfl) (hst : (assignEach ts X.env).findIdx? (·.1) = none := by rfl)
    (hs : swapsWithSole [.Tuple ts kt pt] (.Tuple es k2 pt2) pos.line X.env = pure false := by rfl) (hw : swappedStores [.Tuple ts kt pt] (.Tuple es k2 pt2) X.env = pure none := by rfl)
    (h1 : (assignEach [.Tuple ts kt pt] X.env).map (·.2) = [assign (.Tuple ts kt pt) X.env] := by rfl) :
    XS X T W (.Assign [.Tuple ts kt pt] (.Tuple es k2 pt2) pos) (parS is fm) :=
  (ps_asg (pe_tup ha) (pg_tup hc hg hln hst) hs hw h1).impQ fun De σ H q => par_of hn q fun us H1 hlu k => by
    refine ⟨by rw [hlu, hl]; exact fits_line hf, fun p hp => ⟨p, us, rfl, SqT.of upd_same, by rw [hlu, hl], hlu, k _ (same_new hp) (.inl ⟨p, _, hp, rfl⟩)⟩⟩
end
end Lq
namespace Lq
open PySem PySem.Spec PyProof.Rows L2
/-! ### defs that draw from the box: their first argument -/
structure ExtB (b : Addr) (ns' : List Int) (S H S' H' : Hp) : Prop where
  s : Same S S'
  h : ∀ c o, c ≠ b → H c = some o → H' c = some o
  bx : H' b = some (.lst (ns'.map V.int))
  sh : Same S' H'
  fr : ∀ c o, H c = some o → S' c = S c
def spB (K : PySem.W.Frag) (T : Tb) (n : Nat) (F : List Int → List D → Option (D × List Int)) : Sp := fun vs H Q _ => ∃ S b ns ws ds, vs = .ref b :: ws ∧ Same S H ∧ S b = none ∧ H b = some (.lst (ns.map V.int)) ∧ Rps K T S ds ws ∧ ds.length = n ∧
  match F ns ds with
  | some (d, ns') => ∀ S' H' v, ExtB b ns' S H S' H' → Rp K T S' d v → Q v H'
  | none => False
def boxAt (ρ : Rho) (d : D) : Option (D × List Int) := match ρ[0]? with | some (Cell.b ns) => some (d, ns) | _ => none
def runB (a n : Nat) (f : Rho → O) (ns : List Int) (ds : List D) : Option (D × List Int) := if ds.length = a then (match f (.b ns :: startR n ds) with
  | .nx ρ => boxAt ρ .non
  | .rt v ρ => (match v with
    | .d x => boxAt ρ x
    | .sl i => (match ρ[i]? with | some (.m xs) => boxAt ρ (.lst xs) | _ => none))
  | .rf ds ρ => boxAt ρ (.lst ds)
  | _ => none) else none
theorem runB_len {a n : Nat} {f : Rho → O} (ns : List Int) (ds : List D) (h : runB a n f ns ds ≠ none) : ds.length = a := by
  unfold runB at h
  split at h
  · assumption
  · exact (h rfl).elim
def besidesB (b : Addr) (S H : Hp) : Hp := fun c => if c = b then none else besides S H c
section
variable {K : PySem.W.Frag} {T : Tb} {S S' H : Hp}
theorem bb_ne {b c : Addr} (h : c ≠ b) : besidesB b S H c = besides S H c := by unfold besidesB; rw [if_neg h]
theorem bb_self {b : Addr} : besidesB b S H b = none := by unfold besidesB; rw [if_pos rfl]
theorem bb_of {b c : Addr} {o : HO} (e : besidesB b S H c = some o) : c ≠ b ∧ besides S H c = some o := by
  by_cases h : c = b
  · subst h; rw [bb_self] at e; cases e
  · rw [bb_ne h] at e; exact ⟨h, e⟩
theorem boxAt_of {β : Bt} {G : Hp} {σ : L2.St} {ρ : Rho} {d d' : D} {ns' : List Int} (o : Ok K T β G S σ ρ H) (h : boxAt ρ d = some (d', ns')) : d' = d ∧ ∃ b, β = .bx b ∧ H b = some (.lst (ns'.map V.int)) := by
  unfold boxAt at h
  split at h
  · rename_i ns q
    cases h
    obtain ⟨a, _, e2, e3⟩ := o.cel 0 _ q
    exact ⟨rfl, a, e2, e3⟩
  · cases h
end
section
variable {P : Program} {w : World} {K : PySem.W.Frag} {mg : Str → Option Value} {base : Heap} {T : Tb}
theorem fn_box {x qual : Str} {st : Stmt} {f : Addr} {fd : FuncData} {N ps : List Str} {k n m : Nat} {g : Rho → O} (F : Fun K x qual st f fd) (Sc : FnScope N ps (defScope st)) (hlen : ps.length ≤ N.length) (hps : ps.length = n + 1) (hN : N.length = m + 1)
    (hbody : ∀ (cdv : Value) (A : Around) (outer : List PySem.Env) (s : Shared) (H : Hp) (E : XK), Room k (A.deeper (envOfC qual (defScope st) s.heap.objs.size f cdv)) →
      PassesOwn (model P w) (cxOf (L2.CX P w) P w K mg base N qual (defScope st) f cdv A outer s H E).A (cxOf (L2.CX P w) P w K mg base N qual (defScope st) f cdv A outer s H E).env (cxOf (L2.CX P w) P w K mg base N qual (defScope st) f cdv A outer s H E).xe →
      XB (cxOf (L2.CX P w) P w K mg base N qual (defScope st) f cdv A outer s H E) T W0 (defBody st) g) :
    FnOk P w K mg base (L2.CX P w) (k + 1) f fd ps (spB K T n (runB n m g)) := by
  refine F.okX Sc (fun vs H Q E h => ?_) (fun cdv A outer s H vs Q E hr h => ?_)
  · obtain ⟨S, b, ns, ws, ds, rfl, e, _, _, r, hl, _⟩ := h
    rw [List.length_cons, r.len, hl, hps]
  · obtain ⟨S, b, ns, ws, ds, rfl, e, hb, hbx, r, hl, p⟩ := h
    refine ⟨_, hbody cdv A outer s H E hr (passes_of rfl), .bx b, besidesB b S H, S, .b ns :: startR m ds, ?_, ?_⟩
    · refine ⟨e, fun c o q => besides_same c o (bb_of q).2, fun c o q => besides_apart (bb_of q).2, fun c q => ?_, fun c q => ?_, ?_, fun i c q => ?_, fun i j xs ys q => ?_⟩
      · cases q; exact ⟨bb_self, hb⟩
      · cases q; exact ⟨_, hbx⟩
      · unfold L2.start startR
        simp only [List.length_append, List.length_map, List.length_cons, List.length_replicate]
        rw [r.len, hN]
        omega
      · cases i with
        | zero =>
          simp at q; subst q
          exact ⟨b, by simp [L2.start], rfl, hbx⟩
        | succ i =>
          have := start_cell (n := N.length - (ws.length + 1)) (k := m - ds.length) (i := i) (c := c) (H := H) (β := .bx b) (G := besidesB b S H) r (by simpa [startR] using q)
          have this2 : CellOk K T (.bx b) (besidesB b S H) S H (L2.start N (V.ref b :: ws))[i + 1]? c := by simpa [L2.start] using this
          exact this2
      · cases i with
        | zero => simp at q
        | succ i => exact (start_noM (i := i) (by simpa [startR] using q)).elim
    · have fin : ∀ {S' σ' ρ' H' d d' ns'}, Same S S' → Ok K T (.bx b) (besidesB b S H) S' σ' ρ' H' → boxAt ρ' d = some (d', ns') → d' = d ∧ ExtB b ns' S H S' H' := fun {S' σ' ρ' H' d d' ns'} e1 o hba => by
        obtain ⟨e2, b', e3, e4⟩ := boxAt_of o hba
        cases e3
        refine ⟨e2, e1, fun c u hc q => ?_, e4, o.sh, fun c u q => ?_⟩
        · cases z : S c with
          | none => exact o.gh c u (by rw [bb_ne hc]; exact besides_of q z)
          | some u' => have := e c u' z; rw [q] at this; cases this; exact o.sh c _ (e1 c _ z)
        · cases z : S c with
          | some u' => exact e1 c u' z
          | none =>
            by_cases hc : c = b
            · subst hc; exact (o.gb c rfl).2
            · exact o.gs c u (by rw [bb_ne hc]; exact besides_of q z)
      unfold runB at p
      rw [if_pos hl] at p
      revert p
      cases g (.b ns :: startR m ds) with
      | nx ρ' =>
        intro p S' σ' H' e1 o
        dsimp only at p
        cases q : boxAt ρ' .non with
        | none => rw [q] at p; exact p.elim
        | some dn =>
          rw [q] at p
          obtain ⟨e2, x2⟩ := fin e1 o q
          exact p S' H' .non x2 (by rw [e2]; rfl)
      | rt v ρ' =>
        intro p S' σ' H' u e1 o hv
        cases v with
        | d x =>
          dsimp only at p
          cases q : boxAt ρ' x with
          | none => rw [q] at p; exact p.elim
          | some dn =>
            rw [q] at p
            obtain ⟨e2, x2⟩ := fin e1 o q
            exact p S' H' u x2 (by rw [e2]; exact hv)
        | sl i =>
          dsimp only at p
          cases qi : ρ'[i]? with
          | none => rw [qi] at p; exact p.elim
          | some c =>
            rw [qi] at p
            cases c with
            | m xs =>
              dsimp only at p
              obtain ⟨a, vs', e2, e3, e4, r', o2⟩ := o.frzSlot qi
              have : σ'[i]? = some (some u) := hv
              rw [e2] at this; cases this
              cases q : boxAt ρ' (.lst xs) with
              | none => rw [q] at p; exact p.elim
              | some dn =>
                rw [q] at p
                have q' : boxAt (ρ'.set i (.d (.lst xs))) (.lst xs) = some dn := by
                  unfold boxAt at q ⊢
                  have hi : i ≠ 0 := fun z => by subst z; rw [qi] at q; cases q
                  rw [List.getElem?_set_ne hi]; exact q
                obtain ⟨e5, x2⟩ := fin (e1.trans (same_new e4)) o2 q'
                exact p _ H' (.ref a) x2 (by rw [e5]; exact ⟨a, vs', rfl, upd_same, Rps.mono (same_new e4) _ _ r'⟩)
            | _ => exact p.elim
      | rf ds' ρ' =>
        intro p S' σ' H' a vs' e1 o fr hv r'
        dsimp only at p
        cases q : boxAt ρ' (.lst ds') with
        | none => rw [q] at p; exact p.elim
        | some dn =>
          rw [q] at p
          obtain ⟨e5, x2⟩ := fin (e1.trans (same_new fr.s)) (o.freeze fr hv) q
          exact p _ H' (.ref a) x2 (by rw [e5]; exact ⟨a, vs', rfl, upd_same, Rps.mono (same_new fr.s) _ _ r'⟩)
      | err x ρ' => exact fun p => p.elim
      | bk ρ' => exact fun p => p.elim
      | ct ρ' => exact fun p => p.elim
      | bad => exact fun p => p.elim
end
def isB : Cell → Bool
  | .b _ => true
  | _ => false
def onlyB (i : Nat) (ρ : Rho) : Bool := (ρ.set i .no).all fun c => !isB c
def callBE (F : List Int → List D → Option (D × List Int)) (fs : Rho → R (List VD)) : Rho → R VD := fun ρ => (fs ρ).bind fun vs ρ1 => match vs with
  | .sl i :: ws => (match ρ1[i]?, datAll ws with
    | some (.b ns), some ds => if onlyB i ρ1 then (match F ns ds with | some (d, ns') => .ok (.d d) (ρ1.set i (.b ns')) | none => .bad) else .bad
    | _, _ => .bad)
  | _ => .bad
section
variable {K : PySem.W.Frag} {T : Tb} {W : WX} {β : Bt} {G S S' H : Hp} {σ : L2.St} {ρ : Rho}
theorem Ok.extB {b : Addr} {ns' : List Int} {H' : Hp} {i : Nat} {ns : List Int} (o : Ok K T (.bx b) G S σ ρ H) (e : ExtB b ns' S H S' H') (hi : ρ[i]? = some (.b ns)) (hob : onlyB i ρ = true) : Ok K T (.bx b) G S' σ (ρ.set i (.b ns')) H' where
  sh := e.sh
  gh := fun c u q => e.h c u (fun z => by subst z; rw [(o.gb c rfl).1] at q; cases q) (o.gh c u q)
  gs := fun c u q => (e.fr c u (o.gh c u q)).trans (o.gs c u q)
  gb := fun c q => by
    cases q
    obtain ⟨ms, hb⟩ := o.bx b rfl
    exact ⟨(o.gb b rfl).1, (e.fr b _ hb).trans (o.gb b rfl).2⟩
  bx := fun c q => by cases q; exact ⟨_, e.bx⟩
  len := by rw [List.length_set]; exact o.len
  cel := fun j c q => by
    by_cases hj : j = i
    · subst hj
      have := get_set_eq q
      subst this
      obtain ⟨a, e1, e2, e3⟩ := o.cel j _ hi
      cases e2
      exact ⟨b, e1, rfl, e.bx⟩
    · rw [List.getElem?_set_ne (Ne.symm hj)] at q
      have h1 := o.cel j c q
      cases c with
      | no => trivial
      | d x => obtain ⟨u, e1, r⟩ := h1; exact ⟨u, e1, Rp.mono e.s _ _ r⟩
      | m xs =>
        obtain ⟨a, vs, e1, e2, e3, e4, e5, r⟩ := h1
        exact ⟨a, vs, e1, e.h _ _ (fun z => e5 (by rw [z])) e2, (e.fr _ _ e2).trans e3, e4, e5, Rps.mono e.s _ _ r⟩
      | b ms =>
        exfalso
        unfold onlyB at hob
        have hm : Cell.b ms ∈ ρ.set i .no := List.mem_of_getElem? (i := j) (by rw [List.getElem?_set_ne (Ne.symm hj)]; exact q)
        have := List.all_eq_true.mp hob _ hm
        cases this
      | s t =>
        obtain ⟨a, dx, e1, e2, _⟩ := h1
        cases e2
  dis := fun j l xs ys q1 q2 e1 => by
    have h1 : j ≠ i := fun z => by subst z; cases get_set_eq q1
    have h2 : l ≠ i := fun z => by subst z; cases get_set_eq q2
    rw [List.getElem?_set_ne (Ne.symm h1)] at q1
    rw [List.getElem?_set_ne (Ne.symm h2)] at q2
    exact o.dis j l xs ys q1 q2 e1
theorem callB_of {F : List Int → List D → Option (D × List Int)} {n : Nat} {fs : Rho → R (List VD)} {Q : VK} (hn : ∀ ns ds, F ns ds ≠ none → ds.length = n) (h : rE K T W (callBE F fs) σ H Q) : tCallS (spB K T n F) (WE W) (rA K T W fs) σ H Q := by
  obtain ⟨β, G, S, ρ, o, p⟩ := h
  refine ⟨β, G, S, ρ, o, Post.thn (Rl := RpVs K T σ) p fun S1 H1 ρ1 vs us e1 o1 h1 p1 => ?_⟩
  split at p1
  case h_2 => exact p1.elim
  case h_1 i ws =>
  split at p1
  case h_2 => exact p1.elim
  case h_1 ns ds q1 q2 =>
  split at p1
  case isFalse => exact p1.elim
  case isTrue hob =>
  obtain ⟨u, r, e2, hu, hr⟩ := h1
  obtain ⟨a, f1, f2, f3⟩ := o1.cel i _ q1
  have : σ[i]? = some (some u) := hu
  rw [f1] at this; cases this
  subst f2
  refine ⟨S1, a, ns, r, ds, e2, o1.sh, (o1.gb a rfl).2, f3, datAll_rps q2 hr, hn ns ds (fun z => by rw [z] at p1; exact p1), ?_⟩
  revert p1
  cases F ns ds with
  | none => exact fun p1 => p1
  | some dn => exact fun p1 S2 H2 v x2 rv => p1 S2 H2 v x2.s (o1.extB x2 q1 hob) rv
end
section
variable {X : Cx} {T : Tb} {W : WX} {e : Expr} {es : List Expr} {fs : Rho → R (List VD)} {pos : Pos}
theorem xe_callBx {F : List Int → List D → Option (D × List Int)} {k : Nat} {f : Addr} {fd : FuncData} {ps : List Str} {n : Nat} {x : Str} {p : Pos} (Fk : FnOk X.prog X.w X.K X.mg X.base (L2.CX X.prog X.w) k f fd ps (spB X.K T n F)) (hr : Room k X.A) (hm : X.mg x = some (.ref f)) (hk : PySem.W.keepIn X.K (.ref f) = true) (hb : Binds X.K fd ps [])
    (tk : Takes X W) (hn : ∀ ns ds, F ns ds ≠ none → ds.length = n) (ha : XA X T W (e :: es) fs) (hg : L2.Gl X x := by rfl) (hdb : (x == ("__debug__" : Str)) = false := by decide) (he : starEach (e :: es) X.env = (false, eval e X.env) :: starEach es X.env := by rfl) (hpl : (backTo pos (starEach es X.env)).any (·.1) = false := by rfl) :
    XE X T W (.Call (.Name x p) (e :: es) [] pos) (callBE F fs) :=
  (pe_callS Fk hr hg hm hk hb (fun σ => passAt tk σ) ha hdb he hpl).impQ fun _ _ _ h => callB_of hn h
end

/-! ### a list of a slot's own is changed -/
section
variable {K : PySem.W.Frag} {T : Tb} {W : WX} {β : Bt} {G S S' H : Hp} {σ : L2.St} {ρ : Rho}
theorem Ok.updM {i : Nat} {xs ys : List D} {a : Addr} {ws : List V} (o : Ok K T β G S σ ρ H) (hi : ρ[i]? = some (.m xs)) (ha : σ[i]? = some (some (.ref a))) (r : Rps K T S ys ws) : Ok K T β G S σ (ρ.set i (.m ys)) (upd H a (.lst ws)) := by
  obtain ⟨a', vs, e1, e2, e3, e4, e5, r0⟩ := o.cel i _ hi
  rw [ha] at e1; cases e1
  refine ⟨fun b u q => ?_, fun b u q => ?_, o.gs, o.gb, fun b q => ?_, by rw [List.length_set]; exact o.len, fun j c q => ?_, fun j l us vs' q1 q2 e => ?_⟩
  · rw [upd_ne (fun z => by subst z; rw [e3] at q; cases q)]; exact o.sh b u q
  · rw [upd_ne (fun z => by subst z; rw [e4] at q; cases q)]; exact o.gh b u q
  · rw [upd_ne (fun z => e5 (by rw [q, z]))]; exact o.bx b q
  · by_cases hj : j = i
    · subst hj
      have := get_set_eq q
      subst this
      exact ⟨a, ws, ha, upd_same, e3, e4, e5, r⟩
    · rw [List.getElem?_set_ne (Ne.symm hj)] at q
      have h1 := o.cel j c q
      cases c with
      | no => trivial
      | d x => exact h1
      | m zs =>
        obtain ⟨a2, vs2, f1, f2, f3, f4, f5, r2⟩ := h1
        have hne : a2 ≠ a := fun z => hj (o.dis j i zs xs q hi (by rw [f1, ha, z]))
        exact ⟨a2, vs2, f1, by rw [upd_ne hne]; exact f2, f3, f4, f5, r2⟩
      | b ns =>
        obtain ⟨a2, f1, f2, f3⟩ := h1
        have hne : a2 ≠ a := fun z => e5 (by rw [f2, z])
        exact ⟨a2, f1, f2, by rw [upd_ne hne]; exact f3⟩
      | s t =>
        obtain ⟨a2, dx, f1, f2, f3, f4, f5, f6, f7, f8⟩ := h1
        have hne : a2 ≠ a := fun z => by rw [z, e2] at f3; cases f3
        have hd : dx ≠ a := fun z => by rw [z, e2] at f4; cases f4
        exact ⟨a2, dx, f1, f2, by rw [upd_ne hne]; exact f3, by rw [upd_ne hd]; exact f4, f5, f6, f7, f8⟩
  · by_cases h1 : j = i
    · by_cases h2 : l = i
      · rw [h1, h2]
      · rw [List.getElem?_set_ne (Ne.symm h2)] at q2
        exact h1.trans (o.dis i l xs vs' hi q2 (by rw [← h1]; exact e))
    · rw [List.getElem?_set_ne (Ne.symm h1)] at q1
      by_cases h2 : l = i
      · exact (o.dis j i us xs q1 hi (by rw [← h2]; exact e)).trans h2.symm
      · rw [List.getElem?_set_ne (Ne.symm h2)] at q2
        exact o.dis j l us vs' q1 q2 e
end
/-- o.append(e), o a slot's own list -/
def appE (i : Nat) (fs : Rho → R (List VD)) : Rho → R VD := fun ρ => match ρ[i]? with
  | some (.m _) => (fs ρ).bind fun vs ρ1 => (match ρ1[i]?, vs with
    | some (.m xs), [.d y] => if fits (xs.length + 1) then .ok (.d .non) (ρ1.set i (.m (xs ++ [y]))) else .bad
    | _, _ => .bad)
  | _ => .bad
/-- o.pop(k) -/
def popE (i : Nat) (fs : Rho → R (List VD)) : Rho → R VD := fun ρ => match ρ[i]? with
  | some (.m _) => (fs ρ).bind fun vs ρ1 => (match ρ1[i]?, vs with
    | some (.m xs), [.d (.int k)] => if decide (0 ≤ k) && decide (k < 1000000) then (match xs[k.toNat]? with | some y => .ok (.d y) (ρ1.set i (.m (xs.eraseIdx k.toNat))) | none => .bad) else .bad
    | _, _ => .bad)
  | _ => .bad
theorem Rps.erase {K : PySem.W.Frag} {T : Tb} {S : Hp} : ∀ {ds : List D} {vs : List V} (k : Nat), Rps K T S ds vs → Rps K T S (ds.eraseIdx k) (vs.eraseIdx k)
  | [], _, _, h => by rw [show _ = [] from h]; exact rfl
  | d :: ds, _, 0, ⟨v, r, e1, h, hs⟩ => by rw [e1]; exact hs
  | d :: ds, _, k + 1, ⟨v, r, e1, h, hs⟩ => by rw [e1]; exact ⟨v, _, rfl, h, Rps.erase k hs⟩
section
variable {X : Cx} {T : Tb} {W : WX} {e : Expr} {es : List Expr} {fs : Rho → R (List VD)} {pos : Pos}
/-- what a method asks of a slot's own list -/
theorem slotM_of {K : PySem.W.Frag} {i : Nat} {r : V → List V → Hp → VK → Prop} {σ : L2.St} {H : Hp} {Q : VK} {fe : Rho → R VD} {k : List VD → Rho → R VD} (he : ∀ ρ, fe ρ = match ρ[i]? with | some (.m _) => (fs ρ).bind k | _ => .bad)
    (hk : ∀ {β G S H ρ vs us a}, Ok K T β G S σ ρ H → RpVs K T σ S vs us → σ[i]? = some (some (.ref a)) → Post K T W β G S σ (RpV K T σ) (k vs ρ) Q → r (.ref a) us H Q) (h : rE K T W fe σ H Q) : tBM K "list" r (tVar i) (rA K T W fs) σ H Q := by
  obtain ⟨β, G, S, ρ, o, p⟩ := h
  rw [he] at p
  cases q : ρ[i]? with
  | none => rw [q] at p; exact p.elim
  | some c =>
    rw [q] at p
    cases c with
    | m xs =>
      obtain ⟨a, vs, e1, e2, _⟩ := o.cel i _ q
      refine ⟨.ref a, e1, .inl ⟨rfl, vs, SqL.of e2⟩, β, G, S, ρ, o, Post.thn (Rl := RpVs K T σ) p fun S1 H1 ρ1 ws us e3 o1 h1 p1 => hk o1 h1 e1 p1⟩
    | _ => exact p.elim
theorem xe_append (i : Nat) {x : Str} {px apos cpos : Pos} (ha : XA X T W (e :: es) fs) (hN : X.N[i]? = some x := by rfl) (hv : Vis X.env.scope x := by first | exact Or.inl rfl | exact Or.inr (Or.inl rfl) | exact Or.inr (Or.inr rfl)) (hd : (x == ("__debug__" : Str)) = false := by decide) (hcd : (x == ("__classdict__" : Str)) = false := by decide)
    (hbase : attributeBase (.Name x px) "append" X.env (eval (.Name x px) X.env) = eval (.Name x px) X.env := by rfl)
    (hfew : ((backTo cpos (starEach (e :: es) X.env)).all (fun x => !x.1) && (backToKw cpos (keywordEach [] X.env)).all (fun x => x.1.isSome) && decide ((e :: es).length + ([] : List Keyword).length + (if ([] : List Keyword).isEmpty then 0 else 1) < 30)) = true := by rfl)
    (hline : (apos.endLine == cpos.line) = true := by rfl) (hs : starEach (e :: es) X.env = (false, eval e X.env) :: starEach es X.env := by rfl) (hplain : (backTo cpos (starEach es X.env)).any (·.1) = false := by rfl) :
    XE X T W (.Call (.Attribute (.Name x px) "append" apos) (e :: es) [] cpos) (appE i fs) :=
  (pe_bm PySem.F.plainAttrs_list PySem.F.slot_list_append PySem.F.type_list_append mt_append (pe_var hN hv hd hcd) ha hbase hfew hline hs hplain).impQ fun σ H Q h => by
    refine slotM_of (i := i) (fe := appE i fs) (k := fun vs ρ1 => match ρ1[i]?, vs with | some (.m xs), [.d y] => if fits (xs.length + 1) then .ok (.d .non) (ρ1.set i (.m (xs ++ [y]))) else .bad | _, _ => .bad) (fun ρ => rfl) (fun {β G S H ρ vs us a} o hu ha p => ?_) h
    split at p
    · rename_i xs y q
      split at p
      · rename_i hf
        obtain ⟨b, ws, e1, e2, e3, e4, e5, r⟩ := o.cel i _ q
        rw [ha] at e1; cases e1
        obtain ⟨u, rfl, hy⟩ := hu.one
        refine ⟨a, ws, u, rfl, rfl, e2, by rw [r.len]; exact Nat.lt_of_succ_le (fits_line hf), ?_⟩
        exact p S _ .non (Same.refl _) (o.updM q ha (r.append (Rps.one hy))) rfl
      · exact p.elim
    · exact p.elim
theorem xe_pop (i : Nat) {x : Str} {px apos cpos : Pos} (ha : XA X T W (e :: es) fs) (hN : X.N[i]? = some x := by rfl) (hv : Vis X.env.scope x := by first | exact Or.inl rfl | exact Or.inr (Or.inl rfl) | exact Or.inr (Or.inr rfl)) (hd : (x == ("__debug__" : Str)) = false := by decide) (hcd : (x == ("__classdict__" : Str)) = false := by decide)
    (hbase : attributeBase (.Name x px) "pop" X.env (eval (.Name x px) X.env) = eval (.Name x px) X.env := by rfl)
    (hfew : ((backTo cpos (starEach (e :: es) X.env)).all (fun x => !x.1) && (backToKw cpos (keywordEach [] X.env)).all (fun x => x.1.isSome) && decide ((e :: es).length + ([] : List Keyword).length + (if ([] : List Keyword).isEmpty then 0 else 1) < 30)) = true := by rfl)
    (hline : (apos.endLine == cpos.line) = true := by rfl) (hs : starEach (e :: es) X.env = (false, eval e X.env) :: starEach es X.env := by rfl) (hplain : (backTo cpos (starEach es X.env)).any (·.1) = false := by rfl) :
    XE X T W (.Call (.Attribute (.Name x px) "pop" apos) (e :: es) [] cpos) (popE i fs) :=
  (pe_bm PySem.F.plainAttrs_list PySem.F.slot_list_pop PySem.F.type_list_pop mt_popAt (pe_var hN hv hd hcd) ha hbase hfew hline hs hplain).impQ fun σ H Q h => by
    refine slotM_of (i := i) (fe := popE i fs) (k := fun vs ρ1 => match ρ1[i]?, vs with | some (.m xs), [.d (.int k)] => if decide (0 ≤ k) && decide (k < 1000000) then (match xs[k.toNat]? with | some y => .ok (.d y) (ρ1.set i (.m (xs.eraseIdx k.toNat))) | none => .bad) else .bad | _, _ => .bad) (fun ρ => rfl) (fun {β G S H ρ vs us a} o hu ha p => ?_) h
    split at p
    · rename_i xs k q
      split at p
      · rename_i hf
        rw [Bool.and_eq_true] at hf
        have hk0 := of_decide_eq_true hf.1
        have hk1 := of_decide_eq_true hf.2
        split at p
        · rename_i y hy
          obtain ⟨b, ws, e1, e2, e3, e4, e5, r⟩ := o.cel i _ q
          rw [ha] at e1; cases e1
          obtain ⟨u, rfl, hu'⟩ := hu.one
          obtain ⟨v, hv, rv⟩ := r.get hy
          have hlt : k.toNat < ws.length := (List.getElem?_eq_some_iff.mp hv).1
          have hs : seqIndex? k ws.length = some k.toNat := (ixN_seq (show ixN ws.length k = some k.toNat by
            unfold ixN; rw [if_pos hk0, if_pos (by omega)])).1
          refine ⟨a, ws, k, k.toNat, v, rfl, by rw [show u = .int k from hu'], e2, by omega, by omega, hs, hv, ?_⟩
          exact p S _ v (Same.refl _) (o.updM q ha (r.erase _)) rv
        · exact p.elim
      · exact p.elim
    · exact p.elim
end
end Lq
namespace Lq
open PySem PySem.Spec PyProof.Rows L2
theorem xs_never {X : Cx} {T : Tb} {W : WX} {st : Stmt} : XS X T W st (fun _ => .bad) := ps_never.impQ fun De σ H q => by
  obtain ⟨β, G, S, ρ, o, p⟩ := q
  exact p.elim
/-! ### isinstance -/
def tyName : D → String
  | .non => "NoneType"
  | .bl _ => "bool"
  | .int _ => "int"
  | .str _ => "str"
  | .lst _ => "list"
  | .tup _ => "tuple"
  | .obj _ _ => "?"
  | .scr _ => "?"
def isiB (d : D) (t : String) : Bool := tyName d == t || (tyName d == "bool" && t == "int")
theorem kb_all : ∀ a ∈ ["NoneType", "bool", "int", "str", "list", "tuple"], ∀ b ∈ ["int", "str", "bool", "list", "tuple"], kitB a b = some (a == b || (a == "bool" && b == "int")) := by decide +kernel
def notObj : D → Bool
  | .obj _ _ => false
  | .scr _ => false
  | _ => true
theorem ty_mem {d : D} (h : notObj d = true) : tyName d ∈ ["NoneType", "bool", "int", "str", "list", "tuple"] := by
  cases d <;> first | (simp [tyName]; done) | cases h
section
variable {K : PySem.W.Frag} {T : Tb} {S H : Hp}
theorem RpH.ty {d : D} {v : V} (h : RpH K T S H d v) (e : Same S H) (hn : notObj d = true) : TyX K H v (.type (tyName d)) := by
  cases d with
  | non => rw [h.non]; exact .base .non
  | bl b => rw [h.bl]; exact .base (.bl b)
  | int b => rw [h.int]; exact .base (.int b)
  | str b => rw [h.str]; exact .base (.str b)
  | lst xs => obtain ⟨a, vs, rfl, q, _⟩ := h.lst e; exact .base (.lst q)
  | tup xs =>
    obtain ⟨a, vs, rfl, q, _⟩ := h.tup e
    rcases q with (q | ⟨o, q⟩) | ⟨o, its, n, hk, hc, _⟩
    · exact .base (.tup q)
    · exact .fTuple q
    · exact .kTuple hk hc
  | obj _ _ => cases hn
  | scr _ => cases hn
end
def isiE (ts : List String) (fa : Rho → R VD) : Rho → R VD := fun ρ => (fa ρ).bind fun v ρ1 => match res v ρ1 with
  | some d => if notObj d then .ok (.d (.bl (ts.any (isiB d)))) ρ1 else .bad
  | none => .bad
section
variable {X : Cx} {T : Tb} {W : WX} {e : Expr} {es : List Expr} {fa : Rho → R VD} {fs : Rho → R (List VD)} {pos : Pos}
theorem xe_isi1 {t : String} {x : Str} {p p2 : Pos} (hm : X.mg "isinstance" = none) (hv : bootBuiltins "isinstance" = some (.builtin "isinstance")) (hmt : X.mg x = none) (hvt : bootBuiltins x = some (.type t)) (he : XE X T W e fa) (ht : t ∈ ["int", "str", "bool", "list", "tuple"]) (hg : L2.Gl X "isinstance" := by rfl) (hgt : L2.Gl X x := by rfl)
    (hn : x ≠ "__name__" := by decide) (hd : (x == ("__debug__" : Str)) = false := by decide)
    (h1 : starEach [e, .Name x p2] X.env = (false, eval e X.env) :: starEach [.Name x p2] X.env := by rfl) (h2 : starEach [.Name x p2] X.env = (false, eval (.Name x p2) X.env) :: starEach [] X.env := by rfl) (hpl : (backTo pos (starEach [.Name x p2] X.env)).any (·.1) = false := by rfl) :
    XE X T W (.Call (.Name "isinstance" p) [e, .Name x p2] [] pos) (isiE [t] fa) :=
  (pe_callB call_isi hg hm hv (pa_cons he (pa_cons (pe_bltn (v := .ty t) hgt hmt hvt rfl hn hd) pa_nil h2) h1) (by decide) (by decide) h1 hpl).impQ fun σ H Q h => by
    obtain ⟨β, G, S, ρ, o, p⟩ := h
    refine ⟨β, G, S, ρ, o, Post.thn (Rl := RpV X.K T σ) p fun S1 H1 ρ1 v u e1 o1 h1 p1 => ?_⟩
    split at p1
    · rename_i d q
      split at p1
      · rename_i hno
        refine ⟨u, .ty t, .type (tyName d), .type t, _, rfl, .ty t, (o1.res h1 q).ty o1.sh hno, kit_ty (kb_all _ (ty_mem hno) t ht), ?_⟩
        have := p1 S1 H1 (.bl ([t].any (isiB d))) (Same.refl _) o1 rfl
        simpa [isiB] using this
      · exact p1.elim
    · exact p1.elim
theorem xe_isi2 {t t' : String} {x x' : Str} {p p2 p3 p4 : Pos} {kt : Nat} (hm : X.mg "isinstance" = none) (hv : bootBuiltins "isinstance" = some (.builtin "isinstance")) (hmt : X.mg x = none) (hvt : bootBuiltins x = some (.type t)) (hmt' : X.mg x' = none) (hvt' : bootBuiltins x' = some (.type t')) (he : XE X T W e fa)
    (ht : t ∈ ["int", "str", "bool", "list", "tuple"]) (ht' : t' ∈ ["int", "str", "bool", "list", "tuple"]) (hg : L2.Gl X "isinstance" := by rfl) (hgt : L2.Gl X x := by rfl) (hgt' : L2.Gl X x' := by rfl)
    (hn : x ≠ "__name__" := by decide) (hd : (x == ("__debug__" : Str)) = false := by decide) (hn' : x' ≠ "__name__" := by decide) (hd' : (x' == ("__debug__" : Str)) = false := by decide)
    (h1 : starEach [e, .Tuple [.Name x p2, .Name x' p3] kt p4] X.env = (false, eval e X.env) :: starEach [.Tuple [.Name x p2, .Name x' p3] kt p4] X.env := by rfl) (h2 : starEach [.Tuple [.Name x p2, .Name x' p3] kt p4] X.env = (false, eval (.Tuple [.Name x p2, .Name x' p3] kt p4) X.env) :: starEach [] X.env := by rfl)
    (hpl : (backTo pos (starEach [.Tuple [.Name x p2, .Name x' p3] kt p4] X.env)).any (·.1) = false := by rfl)
    (h3 : starEach [.Name x p2, .Name x' p3] X.env = (false, eval (.Name x p2) X.env) :: starEach [.Name x' p3] X.env := by rfl) (h4 : starEach [.Name x' p3] X.env = (false, eval (.Name x' p3) X.env) :: starEach [] X.env := by rfl) :
    XE X T W (.Call (.Name "isinstance" p) [e, .Tuple [.Name x p2, .Name x' p3] kt p4] [] pos) (isiE [t, t'] fa) :=
  (pe_callB call_isiT hg hm hv (pa_cons he (pa_cons (pe_tup (pa_cons (pe_bltn (v := .ty t) hgt hmt hvt rfl hn hd) (pa_cons (pe_bltn (v := .ty t') hgt' hmt' hvt' rfl hn' hd') pa_nil h4) h3)) pa_nil h2) h1) (by decide) (by decide) h1 hpl).impQ fun σ H Q h => by
    obtain ⟨β, G, S, ρ, o, p⟩ := h
    refine ⟨β, G, S, ρ, o, Post.thn (Rl := RpV X.K T σ) p fun S1 H1 ρ1 v u e1 o1 h1 p1 => ?_⟩
    split at p1
    · rename_i d q
      split at p1
      · rename_i hno
        refine ⟨by show 2 ≤ sizeLine; rw [sizeLine_eq]; decide, fun a ha => ⟨u, a, [.ty t, .ty t'], .type (tyName d), [.type t, .type t'], [t, t'].any (isiB d), rfl, upd_same, .cons (.ty t) (.cons (.ty t') .nil), ?_, ?_, ?_⟩⟩
        · have e3 := Ext.skip (o := .tup [.ty t, .ty t']) o1.sh ha
          have h3 : RpH X.K T S1 (upd H1 a (.tup [.ty t, .ty t'])) d u := by
            rcases o1.res h1 q with z | ⟨b, vs, xs, z1, z2, z3, z4⟩
            · exact .inl z
            · exact .inr ⟨b, vs, xs, z1, z2, same_new ha _ _ z3, z4⟩
          exact h3.ty e3.sh hno
        · refine kitAny_cons (kit_ty (kb_all _ (ty_mem hno) t ht)) (fun hb => kitAny_cons (kit_ty (kb_all _ (ty_mem hno) t' ht')) (fun hb' => kitAny_nil.trans ?_) fun hb' => ?_) fun hb => ?_
          · simp only [isiB, List.any_cons, List.any_nil, Bool.or_false]; rw [hb, hb']; rfl
          · simp only [isiB, List.any_cons, List.any_nil, Bool.or_false]; rw [hb', Bool.or_true]
          · simp only [isiB, List.any_cons, List.any_nil, Bool.or_false]; rw [hb, Bool.true_or]
        · exact p1 S1 _ _ (Same.refl _) (o1.ext (Ext.skip o1.sh ha)) rfl
      · exact p1.elim
    · exact p1.elim

/-! ### keywords alone: f(k = v, ..), in the order of the parameters -/
def XK (X : Cx) (T : Tb) (W : WX) (kws : List Keyword) (f : Rho → R (List VD)) : Prop := PK X kws (rA X.K T W f)
theorem _root_.L2.PK.impQ {X : Cx} {e : List Keyword} {t t' : TA} (h : PK X e t) (i : ∀ σ H Q, t' σ H Q → t σ H Q) : PK X e t' := ⟨fun pos pins s σ H Q I w => h.run pos pins s σ H Q I (i σ H Q w)⟩
theorem xk_nil : XK X T W [] nilA := pk_nil.impQ fun σ H Q h => by
  obtain ⟨β, G, S, ρ, o, p⟩ := h
  exact p S H [] (Same.refl _) o rfl
theorem xk_cons {kws : List Keyword} {nm : Option Str} {kpos : Pos} (ha : XE X T W e fa) (hs : XK X T W kws fs) : XK X T W (⟨nm, e, kpos⟩ :: kws) (consA fa fs) := (pk_cons ha hs).impQ fun σ H Q h => by
  obtain ⟨β, G, S, ρ, o, p⟩ := h
  refine ⟨β, G, S, ρ, o, Post.thn (Rl := RpV X.K T σ) p fun S1 H1 ρ1 v u e1 o1 h1 p1 => ?_⟩
  refine ⟨β, G, S1, ρ1, o1, Post.thn (Rl := RpVs X.K T σ) p1 fun S2 H2 ρ2 vs us e2 o2 h2 p2 => ?_⟩
  exact p2 S2 H2 _ (Same.refl _) o2 ⟨u, us, rfl, h1.mono e2, h2⟩
/-- how keywords alone bind -/
def KwB (K : PySem.W.Frag) (fd : FuncData) (ps : List Str) : Prop := ∀ (s : Shared) (ws : List Value), K.In s.heap → ws.length = ps.length → BindsTo s fd ⟨[], ps.zip ws⟩ (ps.zip ws)
theorem kwB_of {K : PySem.W.Frag} {x qual : Str} {st : Stmt} {f : Addr} {fd : FuncData} {ps : List Str} (F : Fun K x qual st f fd)
    (h : ∀ (kV doc pm : Value) (an : Option Addr) (cdv ct : Value) (ws : List Value), ws.length = ps.length → bindArgs (PySem.W.fnOf x qual (defArgs st) (defBody st) (defScope st) .none kV doc pm an cdv ct) ⟨[], ps.zip ws⟩ = pure (ps.zip ws)) : KwB K fd ps := by
  obtain ⟨oc, od, kV, doc, pm, an, cdv, ct, osl, rfl, lk, hcd⟩ := F.ex
  exact fun s ws _ hl => .of_eq (h kV doc pm an cdv ct ws hl)
theorem pe_kw0 {CX : CXT} {k : Nat} {f : Addr} {fd : FuncData} {ps : List Str} {sp : Sp} {E : L2.St → L2.XK} {x : Str} {p : Pos} {kws : List Keyword} {tk : TA} (Fk : FnOk X.prog X.w X.K X.mg X.base CX k f fd ps sp) (hr : Room k X.A) (hg : L2.Gl X x) (hm : X.mg x = some (.ref f)) (hk : PySem.W.keepIn X.K (.ref f) = true) (hb : KwB X.K fd ps) (hx : ∀ σ, PassesAt CX X σ (E σ))
    (hkw : PK X kws tk) (hall : (backToKw pos (keywordEach kws X.env)).all (·.1.isSome) = true := by rfl) (hks : (backToKw pos (keywordEach kws X.env)).filterMap (·.1) = ps := by rfl)
    (hdb : (x == ("__debug__" : Str)) = false := by decide) (hpl : ((backTo pos (starEach [] X.env)).any (·.1) || (backToKw pos (keywordEach kws X.env)).any (·.1.isNone)) = false := by rfl) :
    PE X (.Call (.Name x p) [] kws pos) (tCallS sp E tk) := by
  refine ⟨fun pins s σ H Q I h => wpAny_Call_Name_kw (ld_glob I hg hm ?_ hdb)⟩
  refine PySem.W.callWith_KW0 (h₀ := X.base) I.ok.mod.kin hk hall (thn (hkw.run pos pins s σ H _ I h) fun ws s2 ⟨zs, H2, I2, rz, q2⟩ => ⟨I2.kIn, ?_⟩) hpl
  rw [hks]
  have hl : ws.length = ps.length := by rw [← rz.length]; exact Fk.len _ _ _ _ q2
  refine wpAny_call (codeAny_mono (Fk.run X.A X.stack s2 H2 ⟨[], ps.zip ws⟩ ws zs Q (E σ) hr I2.env0 (hb s2 ws I2.kIn hl) rz q2) fun r s' hq => ?_)
  cases r with
  | error e => exact hx σ pins H2 s2 e s' I2 hq
  | ok fl => cases fl with
    | ret u => exact I2.after hq
    | _ => exact hq.elim
theorem xe_callKw {F : List D → Res} {k : Nat} {f : Addr} {fd : FuncData} {ps : List Str} {n : Nat} {x : Str} {p : Pos} {kws : List Keyword} (Fk : FnOk X.prog X.w X.K X.mg X.base (L2.CX X.prog X.w) k f fd ps (spP X.K T n F)) (hr : Room k X.A) (hm : X.mg x = some (.ref f)) (hk : PySem.W.keepIn X.K (.ref f) = true) (hb : KwB X.K fd ps)
    (tk : Takes X W) (hn : ∀ ds, F ds ≠ .bad → ds.length = n) (ha : XK X T W kws fs) (hg : L2.Gl X x := by rfl) (hall : (backToKw pos (keywordEach kws X.env)).all (·.1.isSome) = true := by rfl) (hks : (backToKw pos (keywordEach kws X.env)).filterMap (·.1) = ps := by rfl)
    (hdb : (x == ("__debug__" : Str)) = false := by decide) (hpl : ((backTo pos (starEach [] X.env)).any (·.1) || (backToKw pos (keywordEach kws X.env)).any (·.1.isNone)) = false := by rfl) :
    XE X T W (.Call (.Name x p) [] kws pos) (callE F fs) :=
  (pe_kw0 Fk hr hg hm hk hb (fun σ => passAt tk σ) ha hall hks hdb hpl).impQ fun _ _ _ h => call_of hn h
end

/-! ### defs that hand back a new list; the box made anew -/
def spL (K : PySem.W.Frag) (T : Tb) (n : Nat) (F : List D → Option (List D)) : Sp := fun vs H Q _ => ∃ S ds, Same S H ∧ Rps K T S ds vs ∧ ds.length = n ∧ match F ds with
  | some xs => Gf K T S H xs Q
  | none => False
section
variable {X : Cx} {T : Tb} {W : WX} {e e0 : Expr} {es : List Expr} {fa : Rho → R VD} {fs : Rho → R (List VD)} {pos : Pos}
def callL (F : List D → Option (List D)) (fs : Rho → R (List VD)) : Rho → R (List D) := fun ρ => (fs ρ).bind fun vs ρ1 => match datAll vs with
  | some ds => (match F ds with | some xs => .ok xs ρ1 | none => .bad)
  | none => .bad
theorem xf_call {F : List D → Option (List D)} {k : Nat} {f : Addr} {fd : FuncData} {ps : List Str} {n : Nat} {x : Str} {p : Pos} (Fk : FnOk X.prog X.w X.K X.mg X.base (L2.CX X.prog X.w) k f fd ps (spL X.K T n F)) (hr : Room k X.A) (hm : X.mg x = some (.ref f)) (hk : PySem.W.keepIn X.K (.ref f) = true) (hb : Binds X.K fd ps [])
    (tk : Takes X W) (hn : ∀ ds, F ds ≠ none → ds.length = n) (ha : XA X T W (e :: es) fs) (hg : L2.Gl X x := by rfl) (hdb : (x == ("__debug__" : Str)) = false := by decide) (he : starEach (e :: es) X.env = (false, eval e X.env) :: starEach es X.env := by rfl) (hpl : (backTo pos (starEach es X.env)).any (·.1) = false := by rfl) :
    XF X T W (.Call (.Name x p) (e :: es) [] pos) (callL F fs) :=
  (pe_callS Fk hr hg hm hk hb (fun σ => passAt tk σ) ha hdb he hpl).impQ fun σ H Q h => by
    obtain ⟨β, G, S, ρ, o, p⟩ := h
    refine ⟨β, G, S, ρ, o, PostF.thn (Rl := RpVs X.K T σ) p fun S1 H1 ρ1 vs us e1 o1 h1 p1 => ?_⟩
    split at p1
    · rename_i ds q
      refine ⟨S1, ds, o1.sh, datAll_rps q h1, hn ds (fun z => by rw [z] at p1; exact p1), ?_⟩
      revert p1
      cases F ds with
      | none => exact fun p1 => p1
      | some xs => exact fun p1 => p1.gf o1
    · exact p1.elim
theorem Ok.extF {K : PySem.W.Frag} {β : Bt} {G S S' H H' : Hp} {σ : L2.St} {ρ : Rho} {b : Addr} {ns' : List Int} (o : Ok K T β G S σ ρ H) (fr : Fre β G S σ ρ b) {us : List V} (hbl : H b = some (.lst us)) (e : ExtB b ns' S H S' H') : Ok K T β G S' σ ρ H' where
  sh := e.sh
  gh := fun c u q => e.h c u (fun z => by subst z; rw [fr.g] at q; cases q) (o.gh c u q)
  gs := fun c u q => (e.fr c u (o.gh c u q)).trans (o.gs c u q)
  gb := fun c q => by
    obtain ⟨ms, hb⟩ := o.bx c q
    exact ⟨(o.gb c q).1, (e.fr c _ hb).trans (o.gb c q).2⟩
  bx := fun c q => by
    obtain ⟨ms, hb⟩ := o.bx c q
    exact ⟨ms, e.h c _ (fun z => fr.b (by rw [q, z])) hb⟩
  len := o.len
  cel := fun j c q => by
    have h1 := o.cel j c q
    cases c with
    | no => trivial
    | d x => obtain ⟨u, e1, r⟩ := h1; exact ⟨u, e1, Rp.mono e.s _ _ r⟩
    | m xs =>
      obtain ⟨a, vs, e1, e2, e3, e4, e5, r⟩ := h1
      exact ⟨a, vs, e1, e.h _ _ (fun z => fr.sl j xs q (by rw [e1, z])) e2, (e.fr _ _ e2).trans e3, e4, e5, Rps.mono e.s _ _ r⟩
    | b ms =>
      obtain ⟨a, e1, e2, e3⟩ := h1
      exact ⟨a, e1, e2, e.h _ _ (fun z => fr.b (by rw [e2, z])) e3⟩
    | s t =>
      obtain ⟨a, dx, e1, e2, e3, e4, e5, e6, e7, e8⟩ := h1
      exact ⟨a, dx, e1, e2, e.h _ _ (fun z => by rw [z, hbl] at e3; cases e3) e3, e.h _ _ (fun z => by rw [z, hbl] at e4; cases e4) e4, (e.fr _ _ e4).trans e5, e6, (e.fr _ _ e3).trans e7, e8⟩
  dis := o.dis
/-- f(new list): the list is f's box -/
def callNew (F : List Int → List D → Option (D × List Int)) (f : Rho → R (List D)) : Rho → R VD := fun ρ => (f ρ).bind fun ds ρ1 => match allOf D.int? ds with
  | some ns => (match F ns [] with | some (d, _) => .ok (.d d) ρ1 | none => .bad)
  | none => .bad
theorem xe_callNew {F : List Int → List D → Option (D × List Int)} {k : Nat} {f : Addr} {fd : FuncData} {ps : List Str} {x : Str} {p : Pos} {ff : Rho → R (List D)} (Fk : FnOk X.prog X.w X.K X.mg X.base (L2.CX X.prog X.w) k f fd ps (spB X.K T 0 F)) (hr : Room k X.A) (hm : X.mg x = some (.ref f)) (hk : PySem.W.keepIn X.K (.ref f) = true) (hb : Binds X.K fd ps [])
    (tk : Takes X W) (ha : XF X T W e ff) (hg : L2.Gl X x := by rfl) (hdb : (x == ("__debug__" : Str)) = false := by decide) (he : starEach [e] X.env = (false, eval e X.env) :: starEach [] X.env := by rfl) (hpl : (backTo pos (starEach [] X.env)).any (·.1) = false := by rfl) :
    XE X T W (.Call (.Name x p) [e] [] pos) (callNew F ff) :=
  (pe_callS Fk hr hg hm hk hb (fun σ => passAt tk σ) (pa_cons ha pa_nil he) hdb he hpl).impQ fun σ H Q h => by
    obtain ⟨β, G, S, ρ, o, p⟩ := h
    refine ⟨β, G, S, ρ, o, ?_⟩
    unfold callNew at p
    revert p
    cases ff ρ with
    | bad => exact fun p => p
    | err x ρ1 => exact fun p => p
    | ok ds ρ1 =>
      intro p S1 H1 b vs e1 o1 fr hv r
      dsimp only [R.bind] at p
      cases q : allOf D.int? ds with
      | none => rw [q] at p; exact p.elim
      | some ns =>
        rw [q] at p
        have ez := allOf_ints q
        subst ez
        have := r.intsV
        subst this
        refine ⟨S1, b, ns, [], [], rfl, o1.sh, fr.s, hv, rfl, rfl, ?_⟩
        dsimp only at p
        revert p
        cases F ns [] with
        | none => exact fun p => p.elim
        | some dn => exact fun p S2 H2 v x2 rv => p S2 H2 v (e1.trans x2.s) (o1.extF fr hv x2) rv
end
section
variable {P : Program} {w : World} {K : PySem.W.Frag} {mg : Str → Option Value} {base : Heap} {T : Tb}
def runL (a n : Nat) (f : Rho → O) (ds : List D) : Option (List D) := if ds.length = a then (match f (startR n ds) with
  | .rf xs _ => some xs
  | _ => none) else none
theorem runL_len {a n : Nat} {f : Rho → O} (ds : List D) (h : runL a n f ds ≠ none) : ds.length = a := by
  unfold runL at h
  split at h
  · assumption
  · exact (h rfl).elim
theorem fn_new {x qual : Str} {st : Stmt} {f : Addr} {fd : FuncData} {N ps : List Str} {k : Nat} {g : Rho → O} (F : Fun K x qual st f fd) (Sc : FnScope N ps (defScope st))
    (hbody : ∀ (cdv : Value) (A : Around) (outer : List PySem.Env) (s : Shared) (H : Hp) (E : L2.XK), Room k (A.deeper (envOfC qual (defScope st) s.heap.objs.size f cdv)) →
      PassesOwn (model P w) (cxOf (L2.CX P w) P w K mg base N qual (defScope st) f cdv A outer s H E).A (cxOf (L2.CX P w) P w K mg base N qual (defScope st) f cdv A outer s H E).env (cxOf (L2.CX P w) P w K mg base N qual (defScope st) f cdv A outer s H E).xe →
      XB (cxOf (L2.CX P w) P w K mg base N qual (defScope st) f cdv A outer s H E) T W0 (defBody st) g) :
    FnOk P w K mg base (L2.CX P w) (k + 1) f fd ps (spL K T ps.length (runL ps.length N.length g)) := by
  refine F.okX Sc (fun vs H Q E h => ?_) (fun cdv A outer s H vs Q E hr h => ?_)
  · obtain ⟨S, ds, e, r, hl, _⟩ := h
    rw [r.len, hl]
  · obtain ⟨S, ds, e, r, hl, p⟩ := h
    refine ⟨_, hbody cdv A outer s H E hr (passes_of rfl), .no, besides S H, S, startR N.length ds, ?_, ?_⟩
    · refine ⟨e, besides_same, fun b o q => besides_apart q, fun b q => (nomatch q), fun b q => (nomatch q), ?_, fun i c q => start_cell r q, fun i j xs ys q => (start_noM q).elim⟩
      unfold L2.start startR
      rw [List.length_append, List.length_append, List.length_map, List.length_map, List.length_replicate, List.length_replicate, r.len]
    · unfold runL at p
      rw [if_pos hl] at p
      revert p
      cases g (startR N.length ds) with
      | rf ds' ρ' =>
        intro p S' σ' H' a vs' e1 o fr hv r'
        have x1 : Ext S H S' H' := ext_of e e1 o.sh o.gh o.gs
        refine p S' H' a vs' x1 ?_ fr.s hv r'
        cases z : H a with
        | none => rfl
        | some u =>
          exfalso
          cases y : S a with
          | none => have := fr.g; rw [besides_of z y] at this; cases this
          | some u' => have := x1.s a u' y; rw [fr.s] at this; cases this
      | nx ρ' => exact fun p => p.elim
      | rt v ρ' => exact fun p => p.elim
      | err x ρ' => exact fun p => p.elim
      | bk ρ' => exact fun p => p.elim
      | ct ρ' => exact fun p => p.elim
      | bad => exact fun p => p.elim
end
end Lq
namespace Lq
open PySem PySem.Spec PyProof.Rows L2
/-- x[k] = e, x a slot's own list or the box -/
def isMB : Option Cell → Bool
  | some (.m _) => true
  | some (.b _) => true
  | _ => false
def putS1 (i : Nat) (v kk : VD) (ρ : Rho) : O := match ρ[i]?, v, kk with
  | some (.m xs), .d y, .d (.int k) => (match ixN xs.length k with | some j => .nx (ρ.set i (.m (xs.set j y))) | none => .bad)
  | some (.b ns), .d (.int y), .d (.int k) => if onlyB i ρ then (match ixN ns.length k with | some j => .nx (ρ.set i (.b (ns.set j y))) | none => .bad) else .bad
  | _, _, _ => .bad
def putItem (i : Nat) (fe fk : Rho → R VD) : Rho → O := fun ρ => (fe ρ).thnO fun v ρ1 => if isMB ρ1[i]? then ((fk ρ1).thnO fun kk ρ2 => putS1 i v kk ρ2) else .bad
section
variable {X : Cx} {T : Tb} {W : WX} {e k : Expr} {fe fk : Rho → R VD} {pos px ps : Pos} {x : Str}
theorem xs_item (i : Nat) (he : XE X T W e fe) (hk : XE X T W k fk) (hN : X.N[i]? = some x := by rfl) (hv : Vis X.env.scope x := by first | exact Or.inl rfl | exact Or.inr (Or.inl rfl) | exact Or.inr (Or.inr rfl)) (hd : (x == ("__debug__" : Str)) = false := by decide) (hcd : (x == ("__classdict__" : Str)) = false := by decide)
    (ha : ∀ v, assign (.Subscript (.Name x px) k ps) X.env v = (do
      let ov ← holding [v] (eval (.Name x px) X.env)
      let iv ← holding [v, ov] (eval k X.env)
      standAt ps
      holding [v, ov, iv] (setItem ov iv v)
      release [v, ov, iv] []) := by intro _; rfl)
    (hs : swapsWithSole [.Subscript (.Name x px) k ps] e pos.line X.env = pure false := by rfl) (hw : swappedStores [.Subscript (.Name x px) k ps] e X.env = pure none := by rfl)
    (h1 : (assignEach [.Subscript (.Name x px) k ps] X.env).map (·.2) = [assign (.Subscript (.Name x px) k ps) X.env] := by rfl) : XS X T W (.Assign [.Subscript (.Name x px) k ps] e pos) (putItem i fe fk) :=
  (ps_asg he (pg_sub (pe_var hN hv hd hcd) hk set_list ha) hs hw h1).impQ fun De σ H q => by
    obtain ⟨β, G, S, ρ, o, p⟩ := q
    refine ⟨β, G, S, ρ, o, PostS.thn (Rl := RpV X.K T σ) p fun S1 H1 ρ1 v u e1 o1 h1 p1 => ?_⟩
    have hslot : isMB ρ1[i]? = true → ∃ a, σ[i]? = some (some (.ref a)) := fun hm => by
      cases q1 : ρ1[i]? with
      | none => rw [q1] at hm; cases hm
      | some c =>
        rw [q1] at hm
        cases c with
        | m xs => obtain ⟨a, _, ea, _⟩ := o1.cel i _ q1; exact ⟨a, ea⟩
        | b ns => obtain ⟨a, ea, _⟩ := o1.cel i _ q1; exact ⟨a, ea⟩
        | no => cases hm
        | d _ => cases hm
        | s _ => cases hm
    by_cases hm : isMB ρ1[i]? = true
    · rw [if_pos hm] at p1
      obtain ⟨a, ea⟩ := hslot hm
      refine ⟨.ref a, ea, β, G, S1, ρ1, o1, PostS.thn (Rl := RpV X.K T σ) p1 fun S2 H2 ρ2 kk u2 e2 o2 h2 p2 => ?_⟩
      unfold putS1 at p2
      split at p2
      · rename_i xs y kz q2
        split at p2
        · rename_i j hj
          obtain ⟨b, ws, f1, f2, f3, f4, f5, r⟩ := o2.cel i _ q2
          rw [ea] at f1; cases f1
          refine ⟨a, ws, kz, j, rfl, h2, f2, by rw [r.len]; exact hj, ?_⟩
          exact p2 S2 σ _ (Same.refl _) (o2.updM q2 ea (r.set j (Rp.mono e2 _ _ h1)))
        · exact p2.elim
      · rename_i ns y kz q2
        split at p2
        · rename_i hob
          split at p2
          · rename_i j hj
            obtain ⟨b, f1, f2, f3⟩ := o2.cel i _ q2
            rw [ea] at f1; cases f1
            subst f2
            refine ⟨a, ns.map V.int, kz, j, rfl, h2, f3, by rw [List.length_map]; exact hj, ?_⟩
            have hu : u = .int y := h1
            subst hu
            have es : (ns.map V.int).set j (.int y) = (ns.set j y).map V.int := by rw [List.map_set]
            rw [es]
            refine p2 S2 σ _ (Same.refl _) (o2.extB ⟨Same.refl _, fun c o' hc q => by rw [upd_ne hc]; exact q, upd_same, fun c o' q => ?_, fun c o' q => rfl⟩ q2 hob)
            have hc : c ≠ a := fun z => by subst z; rw [(o2.gb c rfl).2] at q; cases q
            rw [upd_ne hc]; exact o2.sh c o' q
          · exact p2.elim
        · exact p2.elim
      · exact p2.elim
    · rw [if_neg hm] at p1; exact p1.elim
end
/-- a constant of the module: a tuple of texts -/
theorem rp_kstrs {K : PySem.W.Frag} {T : Tb} {a : Addr} {o : Obj} {its : Array Value} {n : Nat} {ss : List Str} (hk : K.lookup a = some o) (hc : o.cls = .type "tuple") (hd : o.data = .seq its n) (hz : its.size ≤ sizeLine) (hv : Vals (ss.map V.str) its.toList) (S : Hp) : Rp K T S (.tup (ss.map D.str)) (.ref a) :=
  ⟨a, ss.map V.str, rfl, .inr ⟨o, its, n, hk, hc, hd, hz, hv⟩, Rps.strs ss⟩
end Lq
namespace Lq
open PySem PySem.Spec PyProof.Rows L2
/-! ### sorted of a list or a tuple, by what the library says of gathering -/
theorem sorted_keeps {h : Heap} {a b : Addr} {vs : List Value} {out : Array Value} {o : Obj} (hb : b ≠ a) (e : h.get? b = some o) : (sortedHeap h a vs out).get? b = some o := by
  unfold sortedHeap
  rw [Heap.get?_update_other _ _ (Ne.symm hb)]
  exact Heap.get?_push_of_some _ (Heap.get?_push_of_some _ ((Heap.get?_update_other _ _ (Ne.symm hb)).trans e))
theorem sorted_there {h : Heap} {a : Addr} {vs : List Value} {out : Array Value} {xs : Array Value} {n : Nat} (e : h.get? a = some (seqObj "list" xs n)) : ∃ k, (sortedHeap h a vs out).get? a = some (seqObj "list" out k) := by
  have e1 := Heap.get?_push_of_some (seqObj "list" #[] 0) (Heap.get?_push_of_some (seqObj "tuple" vs.toArray 0) (get?_update_seq e fun _ => #[]))
  exact ⟨_, get?_update_seq e1 fun _ => out⟩
theorem sorted_any {prog : Program} {w : World} {A : Around} {E : Value → Shared → Prop} {s : Shared} {κ : PyProof.Rows.KeyKind} (one : κ.OneLt) {it : Addr} {T : String} {ob : Obj} {vs : List Value} {n : Nat} {Q : Value → Shared → Prop}
    (hT : T = "list" ∨ T = "tuple") (at_ : s.heap.get? it = some ob) (cl : ob.cls = .type T) (dt : ob.data = .seq vs.toArray n) (keys : KeysOf κ (pairsOf vs)) (kk : ∀ v₁ v₂ rest, vs = v₁ :: v₂ :: rest → keyKind' (v₁ :: v₂ :: rest).toArray = pure oneType') (small : vs.length ≤ sizeLine)
    (go : ∀ (p : Addr) (h' : Heap) (st : SortSt), s.heap.get? p = none → (∀ b o, s.heap.get? b = some o → h'.get? b = some o) → (arrOf st).Perm (pairsOf vs) → SortedToK κ (arrOf st) (pairsOf vs).size → (∃ e, h'.get? p = some (seqObj "list" ((arrOf st).map (·.2)) e)) → Q (.ref p) { s with heap := h' }) :
    wpAny (model prog w) A (call (.builtin "sorted") [.ref it]) Q E s := by
  refine Calls.call_function_entry kind_sorted plain_sorted entry_sorted (args_sorted1 _) ?_
  show wpAny _ _ (Builtin.«sorted» _) _ _ _
  unfold Builtin.«sorted»
  refine wpAny_bind (m := checkCount "sorted" 1 1 _) (wpAny_pure (wpAny_bind (wpAny_collect_seq it hT at_ cl dt (fun h1 k1 => wpAny_bind (wpAny_newList ?_ (hsz := small))) (by simpa using small))))
  have here : (h1.push (seqObj "list" vs.toArray 0)).get? h1.objs.size = some (seqObj "list" vs.toArray 0) := Heap.get?_push_size _ rfl
  refine wpAny_bind (wpAny_holding (wpAny_call_entry slot_list_sort (s := { s with heap := h1.push (seqObj "list" vs.toArray 0) }) ⟨_, here, rfl⟩ entry_list_sort (list_sort_treeKAny one here keys kk small fun st e1 e2 => ⟨_, rfl, wpAny_pure ⟨_, rfl, ?_⟩⟩) (args_list_sort _)))
  have none_ : s.heap.get? h1.objs.size = none := by
    cases e : s.heap.get? h1.objs.size with
    | none => rfl
    | some o => exact absurd (Heap.lt_size (k1 _ _ e)) (Nat.lt_irrefl _)
  exact go _ _ st none_ (fun b o e => sorted_keeps (fun z => by rw [z, none_] at e; cases e) (Heap.get?_push_of_some _ (k1 b o e))) e1 e2 (sorted_there here)
/-! ### sorted lists of data -/
def insS (x : Str) : List Str → List Str
  | [] => [x]
  | y :: r => if decide (y.cps.toList < x.cps.toList) then y :: insS x r else x :: y :: r
def sortStrs : List Str → List Str
  | [] => []
  | x :: r => insS x (sortStrs r)
def insI (x : Int) : List Int → List Int
  | [] => [x]
  | y :: r => if decide (y < x) then y :: insI x r else x :: y :: r
def sortInts : List Int → List Int
  | [] => []
  | x :: r => insI x (sortInts r)
theorem insI_perm (x : Int) : ∀ l : List Int, (insI x l).Perm (x :: l)
  | [] => .refl _
  | y :: r => by
    unfold insI
    split
    · exact ((insI_perm x r).cons y).trans (.swap x y r)
    · exact .refl _
theorem sortInts_perm : ∀ l : List Int, (sortInts l).Perm l
  | [] => .refl _
  | x :: r => (insI_perm x _).trans ((sortInts_perm r).cons x)
theorem insI_sorted (x : Int) : ∀ l : List Int, l.Pairwise (· ≤ ·) → (insI x l).Pairwise (· ≤ ·)
  | [], _ => by simp [insI]
  | y :: r, h => by
    have h1 := List.pairwise_cons.mp h
    unfold insI
    split
    · rename_i hlt
      have hlt' := of_decide_eq_true hlt
      refine List.pairwise_cons.mpr ⟨fun z hz => ?_, insI_sorted x r h1.2⟩
      rcases List.mem_cons.mp ((insI_perm x r).mem_iff.mp hz) with rfl | hz
      · omega
      · exact h1.1 z hz
    · rename_i hlt
      have hlt' : ¬ y < x := fun z => hlt (decide_eq_true z)
      refine List.pairwise_cons.mpr ⟨fun z hz => ?_, h⟩
      rcases List.mem_cons.mp hz with rfl | hz
      · omega
      · have := h1.1 z hz; omega
theorem sortInts_sorted : ∀ l : List Int, (sortInts l).Pairwise (· ≤ ·)
  | [] => .nil
  | x :: r => insI_sorted x _ (sortInts_sorted r)
theorem uniq_ints {a b : List Int} (p : a.Perm b) (ha : a.Pairwise (· ≤ ·)) (hb : b.Pairwise (· ≤ ·)) : a = b :=
  List.Perm.eq_of_pairwise (fun x y _ _ h1 h2 => Int.le_antisymm h1 h2) ha hb p
/-- texts by their signs -/
theorem str_ext {x y : Str} (h : x.cps.toList = y.cps.toList) : x = y := by
  cases x; cases y
  simp only at h
  congr
  exact Array.toList_inj.mp h
def leS (x y : Str) : Prop := ¬ y.cps.toList < x.cps.toList
theorem leS_anti {x y : Str} (h1 : leS x y) (h2 : leS y x) : x = y := str_ext (List.le_antisymm (show x.cps.toList ≤ y.cps.toList from h1) h2)
theorem leS_trans {x y z : Str} (h1 : leS x y) (h2 : leS y z) : leS x z := List.le_trans (show x.cps.toList ≤ y.cps.toList from h1) (show y.cps.toList ≤ z.cps.toList from h2)
theorem insS_perm (x : Str) : ∀ l : List Str, (insS x l).Perm (x :: l)
  | [] => .refl _
  | y :: r => by
    unfold insS
    split
    · exact ((insS_perm x r).cons y).trans (.swap x y r)
    · exact .refl _
theorem sortStrs_perm : ∀ l : List Str, (sortStrs l).Perm l
  | [] => .refl _
  | x :: r => (insS_perm x _).trans ((sortStrs_perm r).cons x)
theorem insS_sorted (x : Str) : ∀ l : List Str, l.Pairwise leS → (insS x l).Pairwise leS
  | [], _ => by simp [insS]
  | y :: r, h => by
    have h1 := List.pairwise_cons.mp h
    unfold insS
    split
    · rename_i hlt
      have hlt' := of_decide_eq_true hlt
      refine List.pairwise_cons.mpr ⟨fun z hz => ?_, insS_sorted x r h1.2⟩
      rcases List.mem_cons.mp ((insS_perm x r).mem_iff.mp hz) with rfl | hz
      · exact List.lt_asymm hlt'
      · exact h1.1 z hz
    · rename_i hlt
      have hlt' : leS x y := fun z => hlt (decide_eq_true z)
      refine List.pairwise_cons.mpr ⟨fun z hz => ?_, h⟩
      rcases List.mem_cons.mp hz with rfl | hz
      · exact hlt'
      · exact leS_trans hlt' (h1.1 z hz)
theorem sortStrs_sorted : ∀ l : List Str, (sortStrs l).Pairwise leS
  | [] => .nil
  | x :: r => insS_sorted x _ (sortStrs_sorted r)
theorem uniq_strs {a b : List Str} (p : a.Perm b) (ha : a.Pairwise leS) (hb : b.Pairwise leS) : a = b :=
  List.Perm.eq_of_pairwise (fun x y _ _ h1 h2 => leS_anti h1 h2) ha hb p
end Lq
namespace Lq
open PySem PySem.Spec PyProof.Rows L2
theorem rising_iff : ∀ (p : Str) (r : List Str), risingS p r = true → (p :: r).Pairwise leS
  | p, [], _ => List.pairwise_singleton _ _
  | p, x :: r, h => by
    unfold risingS at h
    rw [Bool.and_eq_true, Bool.not_eq_true', ltCps_eq] at h
    have h2 := rising_iff x r h.2
    have hpx : leS p x := fun z => by rw [decide_eq_true z] at h; exact Bool.noConfusion h.1
    refine List.pairwise_cons.mpr ⟨fun z hz => ?_, h2⟩
    rcases List.mem_cons.mp hz with rfl | hz
    · exact hpx
    · exact leS_trans hpx ((List.pairwise_cons.mp h2).1 z hz)
theorem sortedS_pw {l : List Str} (h : sortedS l = true) : l.Pairwise leS := by
  cases l with
  | nil => exact .nil
  | cons x r => exact rising_iff x r h
def SqA (K : PySem.W.Frag) (H : Hp) (a : Addr) (xs : List V) : Prop := SqL K H a xs ∨ SqT K H a xs
def rSortA (K : PySem.W.Frag) : List V → Hp → VK → Prop := fun vs H Q => ∃ a, vs = [.ref a] ∧
  ((∃ ns : List Int, SqA K H a (ns.map V.int) ∧ ∀ p, H p = none → Q (.ref p) (upd H p (.lst ((sortInts ns).map V.int)))) ∨
   (∃ ss : List Str, SqA K H a (ss.map V.str) ∧ ∀ p, H p = none → Q (.ref p) (upd H p (.lst ((sortStrs ss).map V.str)))))
/-- the object behind a sequence -/
theorem seq_obj {X : Cx} {pins : List (Addr × Obj)} {σ : L2.St} {H : Hp} {s : Shared} {a : Addr} {xs : List V} (I : Inv X pins σ H s) (h : SqA X.K H a xs) : ∃ (its : List Value) (T : String) (o : Obj) (n : Nat), Vals xs its ∧ its.length ≤ sizeLine ∧ (T = "list" ∨ T = "tuple") ∧ s.heap.get? a = some o ∧ o.cls = .type T ∧ o.data = .seq its.toArray n := by
  rcases h with h | h
  · obtain ⟨its, rv, hl, hz⟩ := I.list h
    obtain ⟨o, e, c, n, d⟩ := hl.isList
    exact ⟨its, "list", o, n, rv, rv.length ▸ hz, Or.inl rfl, e, c, d⟩
  · obtain ⟨its, rv, ⟨o, e, c, n, d⟩, hz⟩ := I.tuple h
    exact ⟨its, "tuple", o, n, rv, rv.length ▸ hz, Or.inr rfl, e, c, d⟩
theorem call_sortedA {X : Cx} : CallR X (.builtin "sorted") (rSortA X.K) := by
  intro pins s σ H vs us Q I r h
  obtain ⟨a, rfl, h⟩ := h
  rw [Vals.ref1 r]
  have fin : ∀ {p : Addr} {h' : Heap} {ws : List V} {out : List Value} {ep : Nat}, s.heap.get? p = none → (∀ b o, s.heap.get? b = some o → h'.get? b = some o) → h'.get? p = some (seqObj "list" out.toArray ep) → Vals ws out → ws.length ≤ sizeLine → (∀ q, H q = none → Q (.ref q) (upd H q (.lst ws))) →
      ∃ v H1, Inv X pins σ H1 { s with heap := h' } ∧ RelV v (.ref p) ∧ Q v H1 := fun {p h' ws out ep} n k e rv hz q =>
    ⟨.ref p, upd H p (.lst ws), I.laidN (t' := s.toks) k n (I.hok.gone n) ⟨hz, out, ep, rv, e⟩, rfl, q p (I.hok.gone n)⟩
  rcases h with ⟨ns, hq, q⟩ | ⟨ss, hq, q⟩
  · obtain ⟨its, T, o, n, rv, hz, hT, e, c, d⟩ := seq_obj I hq
    have hi := rv.ints
    refine sorted_any intKind_oneLt hT e c d hi.keysOfInt (fun v₁ v₂ rest e => keyKind_ints (e ▸ hi)) hz fun p h' st n k hp hs ⟨ep, ee⟩ => ?_
    obtain ⟨ms, h1, h2, h3⟩ := sorted_out hi hp (sortedTo_of_int hs)
    cases uniq_ints (h2.trans (sortInts_perm ns).symm) h3 (sortInts_sorted ns)
    have hl := rv.length
    rw [List.length_map] at hl
    exact fin n k ee (vals_of_ints h1) (by rw [List.length_map, (sortInts_perm ns).length_eq, hl]; exact hz) q
  · obtain ⟨its, T, o, n, rv, hz, hT, e, c, d⟩ := seq_obj I hq
    have hi := rv.strs
    refine sorted_any strKind_oneLt hT e c d hi.keysOf (fun v₁ v₂ rest e => keyKind_strs (e ▸ hi)) hz fun p h' st n k hp hs ⟨ep, ee⟩ => ?_
    obtain ⟨ms, h1, h2, h3⟩ := sorted_out_str hi hp hs
    cases uniq_strs (h2.trans (sortStrs_perm ss).symm) (sortedS_pw h3) (sortStrs_sorted ss)
    have hl := rv.length
    rw [List.length_map] at hl
    exact fin n k ee (vals_of_strs h1) (by rw [List.length_map, (sortStrs_perm ss).length_eq, hl]; exact hz) q
/-- ints, or texts -/
def sortDs (xs : List D) : Option (List D) := match allOf D.int? xs with
  | some ns => some ((sortInts ns).map D.int)
  | none => (match allOf D.str? xs with
    | some ss => some ((sortStrs ss).map D.str)
    | none => none)
def sortedF : List D → Option (List D)
  | [x] => (match x.items? with | some xs => sortDs xs | none => none)
  | _ => none
theorem p_sorted {K : PySem.W.Frag} {T : Tb} : PrimNF K T (rSortA K) sortedF := fun S H xs ds d Q e h hg g => by
  unfold sortedF at hg
  split at hg
  case h_2 => cases hg
  case h_1 x =>
  obtain ⟨u, rfl, hu⟩ := h.one
  split at hg
  case h_2 => cases hg
  case h_1 ys q =>
  have hA : ∃ a vs, u = .ref a ∧ SqA K H a vs ∧ Rps K T S ys vs := by
    cases x with
    | lst zs => cases q; obtain ⟨a, vs, e1, q', r⟩ := hu.lst e; exact ⟨a, vs, e1, .inl (SqL.of q'), r⟩
    | tup zs => cases q; obtain ⟨a, vs, e1, q', r⟩ := hu.tup e; exact ⟨a, vs, e1, .inr q', r⟩
    | _ => cases q
  obtain ⟨a, vs, rfl, hq, r⟩ := hA
  unfold sortDs at hg
  split at hg
  · rename_i ns q2
    cases hg
    have ez := allOf_ints q2
    subst ez
    have := r.intsV
    subst this
    exact ⟨a, rfl, .inl ⟨ns, hq, fun p hp => g.new e (Rps.ints _) p hp⟩⟩
  · split at hg
    · rename_i ss q2
      cases hg
      have ez := allOf_strs q2
      subst ez
      have := r.strsV
      subst this
      exact ⟨a, rfl, .inr ⟨ss, hq, fun p hp => g.new e (Rps.strs _) p hp⟩⟩
    · cases hg

/-! ### t[::-1] -/
section
variable {prog : Program} {w : World} {A : Around} {E : Value → Shared → Prop} {s : Shared}
theorem back_pick (xs : List Value) : ((List.range xs.length).filterMap fun (m : Nat) => xs.toArray[(((xs.length : Int) - 1) + (m : Int) * (-1)).toNat]?) = xs.reverse := by
  apply List.ext_getElem?
  intro i
  have hm : ∀ l : List Nat, (∀ m ∈ l, m < xs.length) → (l.filterMap fun (m : Nat) => xs.toArray[(((xs.length : Int) - 1) + (m : Int) * (-1)).toNat]?) = l.map fun m => xs.getD (xs.length - 1 - m) .none := by
    intro l
    induction l with
    | nil => intro _; rfl
    | cons m r ih =>
      intro hl
      have h1 := hl m List.mem_cons_self
      have e1 : (((xs.length : Int) - 1) + (m : Int) * (-1)).toNat = xs.length - 1 - m := by omega
      have e2 : xs.toArray[xs.length - 1 - m]? = some (xs.getD (xs.length - 1 - m) .none) := by
        rw [List.getElem?_toArray, List.getD_eq_getElem?_getD, List.getElem?_eq_getElem (by omega)]; rfl
      rw [List.filterMap_cons, e1, e2, List.map_cons, ih fun z hz => hl z (List.mem_cons_of_mem _ hz)]
  rw [hm _ fun m h => List.mem_range.mp h]
  by_cases hi : i < xs.length
  · rw [List.getElem?_map, List.getElem?_range hi, List.getElem?_reverse hi, Option.map_some, List.getD_eq_getElem?_getD, List.getElem?_eq_getElem (by omega)]
    rfl
  · rw [List.getElem?_eq_none (by simpa using hi), List.getElem?_eq_none (by simpa using hi)]
theorem back_tuple {t sl : Addr} {xs : List Value} {vu : Value} {Q : Value → Shared → Prop} (ht : IsTup s.heap t xs.toArray) (hs : s.heap.IsSliceOf sl .none .none vu) (pu : IsPart vu (some (-1))) (hsz : xs.length ≤ sizeLine)
    (h : Q (.ref s.heap.objs.size) { s with heap := s.heap.push { cls := .type "tuple", data := .seq xs.reverse.toArray } }) : wpAny (model prog w) A (getItem (.ref t) (.ref sl)) Q E s := by
  have hfit : sizeOk (.seq xs.reverse.toArray) := by
    show xs.reverse.toArray.size ≤ sizeLine
    rw [List.size_toArray, List.length_reverse]; exact hsz
  obtain ⟨ob, hob, hcl, hdt⟩ := id hs
  have hty : s.TypeIs (.ref sl) "slice" := ⟨ob, hob, hcl⟩
  unfold getItem
  try with_reducible refine wpAny_holding ?_
  first | refine wpAny_bind (wpAny_pure ?_) | skip
  refine wpAny_bind (wpAny_sequenceKey ht.typeIs (by decide) (wpAny_bind (wpAny_callSpecial?_slot (name := Str.ofString "__getitem__") ht.typeIs PyProof.Rows.slot_tuple_getitem
    (wpAny_call_entry PyProof.Rows.slot_tuple_getitem ht.typeIs entry_tuple_getitem (show wpAny _ _ (Builtin.Tuple.tupleItemsOf (.ref t) >>= _) _ _ s from ?_) (args_tuple_getitem _ _)))))
  refine wpAny_bind (tupleItemsOf_ ht (wpAny_bind (wpAny_typeOf hty ?_)))
  rw [if_pos (by decide)]
  have happ : ∀ {Q' : Int × Int × Nat → Shared → Prop}, Q' ((xs.length : Int) - 1, -1, xs.length) s → wpAny (model prog w) A.in1 (Builtin.Slice.sliceApplied (.ref sl) (pure ((xs.toArray.size : Nat) : Int))) Q' E s := fun {Q'} hq => by
    unfold Builtin.Slice.sliceApplied Builtin.Slice.sliceFields
    refine wpAny_bind (wpAny_bind (wpAny_field hob hdt (x := .none) rfl (wpAny_bind (wpAny_field hob hdt (x := .none) rfl (wpAny_bind (wpAny_field hob hdt (x := vu) rfl (wpAny_pure ?_)))))))
    refine wpAny_bind (HT.slicePart_ pu (show wpAny _ _ (if ((-1 : Int) == 0) = true then _ else _) _ _ s from ?_))
    rw [if_neg (by decide)]
    refine wpAny_bind (slicePart_none (wpAny_bind (slicePart_none (wpAny_bind (wpAny_pure ?_)))))
    have ea : Builtin.Slice.sliceAdjust none none (-1) ((xs.toArray.size : Nat) : Int) = ((xs.length : Int) - 1, -1) := by
      unfold Builtin.Slice.sliceAdjust
      simp
    have ep : Builtin.Slice.slicePlaces ((xs.length : Int) - 1) (-1) (-1) = xs.length := by
      unfold Builtin.Slice.slicePlaces
      have h1 : ¬ ((-1 : Int) > 0) := by omega
      simp only [h1, if_false, Int.neg_neg, Int.ediv_one]
      split <;> omega
    show wpAny _ _ (match Builtin.Slice.sliceAdjust none none (-1) ((xs.toArray.size : Nat) : Int) with | (lo, hi) => pure (lo, (-1 : Int), Builtin.Slice.slicePlaces lo hi (-1))) _ _ s
    rw [ea]
    show wpAny _ _ (pure ((xs.length : Int) - 1, (-1 : Int), Builtin.Slice.slicePlaces ((xs.length : Int) - 1) (-1) (-1))) _ _ s
    rw [ep]
    exact wpAny_pure hq
  refine wpAny_bind (happ ?_)
  have hno : ¬ ((((xs.length : Int) - 1) == 0 && (-1 : Int) == 1 && xs.length == xs.toArray.size) = true) := by
    intro z
    rw [Bool.and_eq_true, Bool.and_eq_true] at z
    exact absurd z.1.2 (by decide)
  show wpAny _ _ (if ((((xs.length : Int) - 1) == 0 && (-1 : Int) == 1 && xs.length == xs.toArray.size) = true) then _ else _) _ _ s
  rw [if_neg hno, back_pick]
  first
    | exact wpAny_bind (m := Builtin.Tuple.tupleExact _) (wpAny_newObj_type (wpAny_pure ⟨_, rfl, wpAny_pure h⟩) hfit)
    | exact wpAny_bind (m := Builtin.Tuple.tupleExact _) (wpAny_newObj_type (wpAny_bind (wpAny_pure (wpAny_pure ⟨_, rfl, wpAny_pure h⟩))) hfit)
    | exact wpAny_bind (wpAny_bind (m := Builtin.Tuple.tupleExact _) (wpAny_newObj_type (wpAny_pure (wpAny_pure ⟨_, rfl, wpAny_pure h⟩)) hfit))
    | exact wpAny_bind (wpAny_bind (m := Builtin.Tuple.tupleExact _) (wpAny_newObj_type (wpAny_pure ⟨_, rfl, wpAny_pure h⟩) hfit))
end
def tRevT (K : PySem.W.Frag) (te : TE) : TE := fun σ H Q => te σ H fun x H1 => ∃ a xs, x = .ref a ∧ ((SqL K H1 a xs ∧ ∀ p, H1 p = none → Q (.ref p) (upd H1 p (.lst xs.reverse))) ∨ (SqT K H1 a xs ∧ ∀ p, H1 p = none → Q (.ref p) (upd H1 p (.tup xs.reverse))))
section
variable {X : Cx} {T : Tb} {W : WX} {e : Expr} {es : List Expr} {fa : Rho → R VD} {fs : Rho → R (List VD)} {pos : Pos}
theorem pe_back {te : TE} {k : Nat} {p1 p2 p3 : Pos} (he : PE X e te) : PE X (.Subscript e (.Slice none none (some (.UnaryOp .USub (.Constant (.int 1) k p1) p2)) p3) pos) (tRevT X.K te) := by
  refine ⟨fun pins s σ H Q I h => Subscript_ (thn (he.run pins s σ H _ I h) fun v s1 ⟨x, H1, I1, r1, q1⟩ => ?_)⟩
  obtain ⟨a, xs, rfl, q1⟩ := q1
  cases r1
  have hneg : PO X (some (.UnaryOp .USub (.Constant (.int 1) k p1) p2)) (tPart (tUn (rU fun i => .int (-i)) (tC (.int 1)))) := po_some (pe_un un_neg pe_int)
  refine wpAny_Slice (thn (po_none.run pins s1 σ H1 (fun o H2 => o = none ∧ H2 = H1) I1 ⟨rfl, rfl⟩) fun vl s2 ⟨l, H2, I2, pl, el, e2⟩ => ?_)
  subst el e2
  refine thn (po_none.run pins s2 σ H2 (fun o H3 => o = none ∧ H3 = H2) I2 ⟨rfl, rfl⟩) fun vh s3 ⟨u, H3, I3, ph, eu, e3⟩ => ?_
  subst eu e3
  refine thn (hneg.run pins s3 σ H3 (fun o H4 => o = some (-1) ∧ H4 = H3) I3 ⟨1, rfl, -1, rfl, rfl, rfl⟩) fun vs s4 ⟨o, H4, I4, ps, eo, e4⟩ => ?_
  subst eo e4
  cases pl
  cases ph
  have I5 : Inv X pins σ H4 { s4 with heap := s4.heap.push { cls := .type "slice", data := .fields #[.none, .none, vs] } } := I4.kept (t' := s4.toks) fun b ob q => Heap.get?_push_of_some _ q
  show wpAny (model X.prog X.w) X.A (subscriptTail e (.Slice none none (some (.UnaryOp .USub (.Constant (.int 1) k p1) p2)) p3) (.ref a) (.ref s4.heap.objs.size)) (EP X pins σ Q) X.xe { s4 with heap := s4.heap.push { cls := .type "slice", data := .fields #[.none, .none, vs] } }
  rcases q1 with ⟨hx, q⟩ | ⟨hx, q⟩
  · obtain ⟨its, r, ht, hz⟩ := I5.list hx
    have hn := r.length
    refine tail_any (ops := [.ref a, .ref s4.heap.objs.size]) ht.isList.typeIs (PySem.slot_list_getitem.lookup) (wpAny_getItem_list_slice ht.isList (Heap.IsSliceOf.new _ .none .none vs) .none .none ps (by decide) ?_ (by rw [List.size_toArray]; omega)) (by with_unfolding_all rfl)
    rw [PySem.W.krv_pick]
    exact ⟨.ref _, _, I5.laid (t' := s4.toks) (o := .lst xs.reverse) (fun b ob q => Heap.get?_push_of_some _ q) (Nat.le_refl _) ⟨by rw [List.length_reverse]; exact hz, _, 0, r.reverse, Heap.get?_push_size _ rfl⟩, rfl, q _ (I5.hok.fresh (Nat.le_refl _))⟩
  · obtain ⟨its, r, ht, hz⟩ := I5.tuple hx
    have hn := r.length
    refine tail_any (ops := [.ref a, .ref s4.heap.objs.size]) ht.typeIs (PyProof.Rows.slot_tuple_getitem.lookup) (back_tuple ht (Heap.IsSliceOf.new _ .none .none vs) ps (by omega) ?_) (by with_unfolding_all rfl)
    exact ⟨.ref _, _, I5.laid (t' := s4.toks) (o := .tup xs.reverse) (fun b ob q => Heap.get?_push_of_some _ q) (Nat.le_refl _) ⟨by rw [List.length_reverse]; exact hz, _, r.reverse, IsTup.new _ _⟩, rfl, q _ (I5.hok.fresh (Nat.le_refl _))⟩
def revD : D → Option D
  | .lst xs => some (.lst xs.reverse)
  | .tup xs => some (.tup xs.reverse)
  | _ => none
theorem xe_back {k : Nat} {p1 p2 p3 : Pos} (he : XE X T W e fa) : XE X T W (.Subscript e (.Slice none none (some (.UnaryOp .USub (.Constant (.int 1) k p1) p2)) p3) pos) (op1E revD fa) := (pe_back he).impQ fun σ H Q h =>
  tUn_of (r := fun x H1 Q => ∃ a xs, x = .ref a ∧ ((SqL X.K H1 a xs ∧ ∀ p, H1 p = none → Q (.ref p) (upd H1 p (.lst xs.reverse))) ∨ (SqT X.K H1 a xs ∧ ∀ p, H1 p = none → Q (.ref p) (upd H1 p (.tup xs.reverse))))) (fun S H x dx d Q e hx h g => by
    unfold revD at h
    split at h
    · cases h
      obtain ⟨a, vs, rfl, q, r⟩ := hx.lst e
      exact ⟨a, vs, rfl, .inl ⟨SqL.of q, fun p hp => g.newL e r.reverse p hp⟩⟩
    · cases h
      obtain ⟨a, vs, rfl, q, r⟩ := hx.tup e
      exact ⟨a, vs, rfl, .inr ⟨q, fun p hp => g.newT e r.reverse p hp⟩⟩
    · cases h) h
/-! ### f() -/
theorem xe_call0 {F : List D → Res} {k : Nat} {f : Addr} {fd : FuncData} {x : Str} {p : Pos} (Fk : FnOk X.prog X.w X.K X.mg X.base (L2.CX X.prog X.w) k f fd [] (spP X.K T 0 F)) (hr : Room k X.A) (hm : X.mg x = some (.ref f)) (hk : PySem.W.keepIn X.K (.ref f) = true) (hb : KwB X.K fd [])
    (tk : Takes X W) (hn : ∀ ds, F ds ≠ .bad → ds.length = 0) (hg : L2.Gl X x := by rfl) (hdb : (x == ("__debug__" : Str)) = false := by decide) :
    XE X T W (.Call (.Name x p) [] [] pos) (callE F nilA) := xe_callKw Fk hr hm hk hb tk hn xk_nil hg rfl rfl hdb rfl
/-! ### a or b, a new list of either -/
def orF (f g : Rho → R (List D)) : Rho → R (List D) := fun ρ => (f ρ).bind fun ds ρ1 => if ds.isEmpty then g ρ1 else .ok ds ρ1
theorem xf_or {a b : Expr} {f g : Rho → R (List D)} (ha : XF X T W a f) (hb : XF X T W b g) : XF X T W (.BoolOp .Or [a, b] pos) (orF f g) := (pe_orT ha (pe_one hb)).impQ fun σ H Q h => by
  obtain ⟨β, G, S, ρ, o, p⟩ := h
  refine ⟨β, G, S, ρ, o, ?_⟩
  unfold orF at p
  revert p
  cases f ρ with
  | bad => exact fun p => p
  | err x ρ1 => exact fun p => p
  | ok ds ρ1 =>
    intro p S1 H1 a1 vs e1 o1 fr hv r
    dsimp only [R.bind] at p
    refine ⟨!vs.isEmpty, .inl ⟨vs, SqL.of hv, rfl⟩, ?_⟩
    have hl := r.len
    cases ds with
    | nil =>
      have : vs = [] := List.length_eq_zero_iff.mp hl
      subst this
      exact iteF ⟨β, G, S1, ρ1, o1, PostF.mono p e1⟩
    | cons d dr =>
      cases vs with
      | nil => cases hl
      | cons v vr => exact iteT (p S1 H1 a1 _ e1 o1 fr hv r)
end
theorem cx_no {P : Program} {w : World} {l : List PySem.Env} {H : Hp} {s s' : Shared} {e : Value} (h : L2.CX P w l H s (fun _ _ _ => False) e s') : False := by
  obtain ⟨_, _, _, _, _, _, _, _, _, _, _, _, z⟩ := h
  exact z
end Lq
namespace Lq
open PySem
/-! ### plain laws of the mirrors -/
theorem comp_all {vs : List Nat} {gd : D → Rho → Option Rho} {ft : Rho → R Bool} {fe : Rho → R VD} {g : D → List D} {ρ : Rho} : ∀ (ds acc : List D),
    (∀ d ∈ ds, (g d).length ≤ 1 ∧ ∀ acc' : List D, acc'.length + 1 ≤ 1000000 → ∃ ρ1, compTurn gd ft fe acc' d ρ = .ok (acc' ++ g d) ρ1 ∧ wipeR ρ1 vs = ρ) → acc.length + ds.length ≤ 1000000 →
    compLoop vs gd ft fe acc ds ρ = .ok (acc ++ ds.flatMap g) ρ
  | [], acc, _, _ => by simp [compLoop]
  | d :: ds, acc, h, hl => by
    obtain ⟨h1, h2⟩ := h d List.mem_cons_self
    rw [List.length_cons] at hl
    obtain ⟨ρ1, e1, e2⟩ := h2 acc (by omega)
    rw [compLoop, e1]
    dsimp only
    rw [e2, comp_all ds _ (fun z hz => h z (List.mem_cons_of_mem _ hz)) (by rw [List.length_append]; omega), List.flatMap_cons, List.append_assoc]
theorem flatMap_one {α β : Type} (f : α → β) (l : List α) : (l.flatMap fun x => [f x]) = l.map f := by
  induction l with
  | nil => rfl
  | cons x r ih => rw [List.flatMap_cons, ih]; rfl
theorem flatMap_if {α β : Type} (p : α → Bool) (f : α → β) (l : List α) : (l.flatMap fun x => if p x then [f x] else []) = (l.filter p).map f := by
  induction l with
  | nil => rfl
  | cons x r ih =>
    rw [List.flatMap_cons, ih, List.filter_cons]
    split <;> rfl
theorem allOf_map_int (l : List Int) : allOf D.int? (l.map D.int) = some l := by
  induction l with
  | nil => rfl
  | cons x r ih => rw [List.map_cons, allOf]; simp [D.int?, ih]
theorem allOf_map_str (l : List Str) : allOf D.str? (l.map D.str) = some l := by
  induction l with
  | nil => rfl
  | cons x r ih => rw [List.map_cons, allOf]; simp [D.str?, ih]
theorem allOf_map_bl (l : List Bool) : allOf D.bl? (l.map D.bl) = some l := by
  induction l with
  | nil => rfl
  | cons x r ih => rw [List.map_cons, allOf]; simp [D.bl?, ih]
def isT : Res → Bool
  | .ok (.bl true) => true
  | _ => false
theorem isT_of {r : Res} (h : isT r = true) : r = .ok (.bl true) := by
  unfold isT at h
  split at h
  · rfl
  · cases h
/-- the box of draws: k draws at most were made -/
structure Bx (k : Nat) (ns : List Int) : Prop where
  at_ : ∃ b0 b1 b2, ns = [b0, b1, b2] ∧ 0 ≤ b0 ∧ 0 ≤ b1 ∧ b1 < 4611686018427387904 ∧ 0 ≤ b2 ∧ b2 ≤ k
theorem Bx.mono {j k : Nat} {ns : List Int} (h : Bx j ns) (e : j ≤ k) : Bx k ns := by
  obtain ⟨b0, b1, b2, h1, h2, h3, h4, h5, h6⟩ := h
  exact ⟨b0, b1, b2, h1, h2, h3, h4, h5, by omega⟩
theorem big_of {i : Int} (h1 : -18446744073709551616 < i) (h2 : i < 18446744073709551616) : big i = true := by
  unfold big
  exact Nat.ble_eq_true_of_le (by omega)
def drawn (b1 b2 n : Int) : Int :=
  ((((((b1 + 48271 * (b2 + 1)) * (39373 + (b2 + 1))) % 2147483647 + (b2 + 1) + b1 / 1000003) * (((b1 + 48271 * (b2 + 1)) * (39373 + (b2 + 1))) % 2147483647 % 40009 + 7)) % 2147483629 * 48271 + ((b1 + 48271 * (b2 + 1)) * (39373 + (b2 + 1))) % 2147483647) % 2147483587 / 64) % n
/-- cells of the script: the loop's turns keep three ints -/
theorem enumD_cons (x : D) (r : List D) : enumD (x :: r) = D.tup [.int 0, x] :: (r.zipIdx 1).map fun p => D.tup [.int (p.2 : Nat), p.1] := rfl
theorem cutL_to {α : Type} (xs : List α) (n : Nat) : cutL xs none (some (n : Int)) = xs.take n := by
  unfold cutL
  rw [HT.sIx_none, HT.sIx_nat, List.drop_zero, Nat.sub_zero, ← List.take_eq_take_min]
theorem cutL_at {α : Type} (xs : List α) (n : Nat) : cutL xs (some (n : Int)) none = xs.drop n := by
  unfold cutL
  rw [HT.sIx_none, HT.sIx_nat]
  by_cases h : n ≤ xs.length
  · rw [Nat.min_eq_left h, ← List.length_drop, List.take_length]
  · rw [Nat.min_eq_right (by omega), Nat.sub_self, List.take_zero, List.drop_eq_nil_of_le (by omega)]
theorem cutL_ft {α : Type} (xs : List α) (m n : Nat) : cutL xs (some (m : Int)) (some (n : Int)) = (xs.take n).drop m := by
  unfold cutL
  rw [HT.sIx_nat, HT.sIx_nat, List.drop_take]
  by_cases h : m ≤ xs.length
  · rw [Nat.min_eq_left h]
    by_cases h2 : n ≤ xs.length
    · rw [Nat.min_eq_left h2]
    · rw [Nat.min_eq_right (by omega), List.take_of_length_le (by rw [List.length_drop]; omega), List.take_of_length_le (by rw [List.length_drop]; omega)]
  · rw [Nat.min_eq_right (by omega : xs.length ≤ m), List.drop_eq_nil_of_le (Nat.le_refl _), List.drop_eq_nil_of_le (by omega : xs.length ≤ m), List.take_nil, List.take_nil]
theorem rng_mem {n : Nat} {d : D} (h : d ∈ rng 0 n) : ∃ k : Nat, k < n ∧ d = .int k := by
  unfold rng at h
  simp at h
  obtain ⟨k, h1, h2⟩ := h
  exact ⟨k, h1, by rw [← h2]⟩
theorem fits_of {n : Nat} (h : n ≤ 1000000) : fits n = true := by
  unfold fits
  exact decide_eq_true (by omega)
theorem rng_true (n : Nat) (y : D) : ((rng 0 n).map fun _ => y) = List.replicate n y := by
  unfold rng
  rw [List.map_map]
  exact List.ext_getElem (by simp) fun i h1 h2 => by simp
theorem all_true (n : Nat) : allD [.lst (List.replicate n (D.bl true))] = some (.bl true) := by
  have e : List.replicate n (D.bl true) = (List.replicate n true).map D.bl := by rw [List.map_replicate]
  rw [e, allD, allOf_map_bl]
  simp
theorem comp_inv {vs : List Nat} {gd : D → Rho → Option Rho} {ft : Rho → R Bool} {fe : Rho → R VD} (I : Nat → Rho → Prop) (y : D) (N : Nat) : ∀ (ds acc : List D) (k : Nat) (ρ : Rho), I k ρ →
    (∀ d ∈ ds, ∀ k ρ, ∀ acc' : List D, I k ρ → k < N → fits (acc'.length + 1) = true → ∃ ρ1, compTurn gd ft fe acc' d ρ = .ok (acc' ++ [y]) ρ1 ∧ I (k + 1) (wipeR ρ1 vs)) → acc.length + ds.length ≤ 1000000 → k + ds.length ≤ N →
    ∃ ρ', compLoop vs gd ft fe acc ds ρ = .ok (acc ++ ds.map fun _ => y) ρ' ∧ I (k + ds.length) ρ'
  | [], acc, k, ρ, hi, _, _, _ => ⟨ρ, by simp [compLoop], hi⟩
  | d :: ds, acc, k, ρ, hi, h, hl, hn => by
    rw [List.length_cons] at hl hn
    obtain ⟨ρ1, e1, e2⟩ := h d List.mem_cons_self k ρ acc hi (by omega) (fits_of (by omega))
    obtain ⟨ρ2, e3, e4⟩ := comp_inv I y N ds (acc ++ [y]) (k + 1) _ e2 (fun z hz => h z (List.mem_cons_of_mem _ hz)) (by rw [List.length_append, List.length_singleton]; omega) (by omega)
    refine ⟨ρ2, ?_, by rw [List.length_cons, show k + (ds.length + 1) = k + 1 + ds.length by omega]; exact e4⟩
    rw [compLoop, e1]
    dsimp only
    rw [e3, List.map_cons, List.append_assoc]
    rfl
theorem okR_small {i : Int} (h1 : -1000000000000 ≤ i) (h2 : i ≤ 1000000000000) : okR i = true := by
  unfold okR
  exact Nat.ble_eq_true_of_le (by omega)
theorem loop_inv {body : D → Rho → O} (I : Nat → Rho → Prop) : ∀ (ds : List D) (k : Nat) (ρ : Rho), I k ρ → (∀ (j : Nat) (d : D) (ρ : Rho), ds[j]? = some d → I (k + j) ρ → ∃ ρ1, body d ρ = .nx ρ1 ∧ I (k + j + 1) ρ1) →
    ∃ ρ', loopS body ds ρ = .nx ρ' ∧ I (k + ds.length) ρ'
  | [], k, ρ, hi, _ => ⟨ρ, rfl, hi⟩
  | d :: ds, k, ρ, hi, h => by
    obtain ⟨ρ1, e1, h1⟩ := h 0 d ρ rfl hi
    obtain ⟨ρ2, e2, h2⟩ := loop_inv I ds (k + 1) ρ1 h1 (fun j d' ρ' hj hi' => by
      obtain ⟨ρ3, e3, h3⟩ := h (j + 1) d' ρ' hj (by rw [show k + (j + 1) = k + 1 + j by omega]; exact hi')
      exact ⟨ρ3, e3, by rw [show k + 1 + j + 1 = k + (j + 1) + 1 by omega]; exact h3⟩)
    refine ⟨ρ2, ?_, by rw [List.length_cons, show k + (ds.length + 1) = k + 1 + ds.length by omega]; exact h2⟩
    rw [loopS, e1]
    exact e2
theorem rng_len (lo : Int) (n : Nat) : (rng lo n).length = n := by unfold rng; rw [List.length_map, List.length_range]
theorem rng_at {lo : Int} {n j : Nat} {d : D} (h : (rng lo n)[j]? = some d) : j < n ∧ d = .int (lo + j) := by
  have hj : j < n := by
    have := (List.getElem?_eq_some_iff.1 h).1
    rw [rng_len] at this
    exact this
  refine ⟨hj, ?_⟩
  unfold rng at h
  rw [List.getElem?_map, List.getElem?_range hj] at h
  exact (Option.some.inj h).symm
theorem erase_perm {α : Type} {l : List α} {i : Nat} (h : i < l.length) : (l[i] :: l.eraseIdx i).Perm l := by
  induction l generalizing i with
  | nil => exact absurd h (Nat.not_lt_zero _)
  | cons a r ih => cases i with
    | zero => exact List.Perm.refl _
    | succ i =>
      rw [List.getElem_cons_succ, List.eraseIdx_cons_succ]
      exact (List.Perm.swap _ _ _).trans ((ih (Nat.lt_of_succ_lt_succ h)).cons _)
end Lq
namespace Lq
open PySem
/-! ### whole comprehensions, equal data -/
theorem compF_map {vs : List Nat} {fi : Rho → R (List D)} {gd : D → Rho → Option Rho} {fe : Rho → R VD} {ρ : Rho} {ds : List D} (g : D → D) (hi : fi ρ = .ok ds ρ) (hw : wipeR ρ vs = ρ) (hb : backR ρ ρ vs = ρ) (hp : (vs.all fun v => plainC (ρ.getD v .no)) = true)
    (hl : ds.length ≤ 1000000) (h : ∀ d ∈ ds, ∃ ρ1 ρ2, gd d ρ = some ρ1 ∧ fe ρ1 = .ok (.d (g d)) ρ2 ∧ wipeR ρ2 vs = ρ) : compF vs fi gd yesT fe ρ = .ok (ds.map g) ρ := by
  have e := comp_all (vs := vs) (gd := gd) (ft := yesT) (fe := fe) (g := fun d => [g d]) (ρ := ρ) ds [] (fun d hd => ⟨by simp, fun acc ha => by
    obtain ⟨ρ1, ρ2, e1, e2, e3⟩ := h d hd
    refine ⟨ρ2, ?_, e3⟩
    simp only [Lq.compTurn, e1, yesT, R.bind, e2, if_true, fits_of ha]⟩) (by rw [List.length_nil]; omega)
  rw [List.nil_append, flatMap_one] at e
  simp only [Lq.compF, hi, R.bind, hp, hw, e, hb, if_true]
theorem compF_inv {vs : List Nat} {fi : Rho → R (List D)} {gd : D → Rho → Option Rho} {fe : Rho → R VD} {ρ : Rho} {ds : List D} (I : Nat → Rho → Prop) (y : D) (N : Nat) (hi : fi ρ = .ok ds ρ) (hw : wipeR ρ vs = ρ) (hb : ∀ k ρ', I k ρ' → backR ρ ρ' vs = ρ') (hp : (vs.all fun v => plainC (ρ.getD v .no)) = true)
    (hl : ds.length ≤ 1000000) (hN : ds.length ≤ N) (h0 : I 0 ρ) (h : ∀ d ∈ ds, ∀ k ρ, I k ρ → k < N → ∃ ρ1 ρ2, gd d ρ = some ρ1 ∧ fe ρ1 = .ok (.d y) ρ2 ∧ I (k + 1) (wipeR ρ2 vs)) : ∃ ρ', compF vs fi gd yesT fe ρ = .ok (ds.map fun _ => y) ρ' ∧ I ds.length ρ' := by
  obtain ⟨ρ', e, hI⟩ := comp_inv (vs := vs) (gd := gd) (ft := yesT) (fe := fe) I y N ds [] 0 ρ h0 (fun d hd k ρ acc hi hk hf => by
    obtain ⟨ρ1, ρ2, e1, e2, e3⟩ := h d hd k ρ hi hk
    refine ⟨ρ2, ?_, e3⟩
    simp only [Lq.compTurn, e1, yesT, R.bind, e2, if_true, hf]) (by rw [List.length_nil]; omega) (by omega)
  rw [Nat.zero_add] at hI
  refine ⟨ρ', ?_, hI⟩
  rw [List.nil_append] at e
  simp only [Lq.compF, hi, R.bind, hp, hw, e, hb _ _ hI, if_true]
/-- data of at most n levels, no list too long -/
def good : Nat → D → Bool
  | 0, _ => false
  | n + 1, .lst xs => decide (xs.length ≤ 1000000) && xs.all (good n)
  | n + 1, .tup xs => decide (xs.length ≤ 1000000) && xs.all (good n)
  | _ + 1, .non => true
  | _ + 1, .bl _ => true
  | _ + 1, .int _ => true
  | _ + 1, .str _ => true
  | _ + 1, _ => false
/-- the same, its texts of plain signs -/
def fine : Nat → D → Bool
  | 0, _ => false
  | n + 1, .lst xs => xs.all (fine n)
  | n + 1, .tup xs => xs.all (fine n)
  | _ + 1, .non => true
  | _ + 1, .bl _ => true
  | _ + 1, .int _ => true
  | _ + 1, .str s => PyData.strOk s
  | _ + 1, _ => false
theorem fines_plain {n : Nat} (h : ∀ d, fine n d = true → plainD d = true ∧ (toPy d).depth ≤ n ∧ ((toPy d).canLay0 = true)) : ∀ ys : List D, (∀ x ∈ ys, fine n x = true) → plainDs ys = true ∧ PyData.depthAll (toPys ys) ≤ n ∧ PyData.canLayAll0 (toPys ys) = true
  | [], _ => ⟨rfl, by simp [toPys, PyData.depthAll], by simp [toPys, PyData.canLayAll0]⟩
  | y :: r, q => by
    obtain ⟨a1, a2, a3⟩ := h y (q y List.mem_cons_self)
    obtain ⟨b1, b2, b3⟩ := fines_plain h r fun x hx => q x (List.mem_cons_of_mem _ hx)
    exact ⟨by simp [plainDs, a1, b1], by simp [toPys, PyData.depthAll]; omega, by simp [toPys, PyData.canLayAll0, a3, b3]⟩
theorem fine_plain : ∀ (n : Nat) (d : D), fine n d = true → plainD d = true ∧ (toPy d).depth ≤ n ∧ ((toPy d).canLay0 = true)
  | 0, _, h => by cases h
  | n + 1, d, h => by
    cases d with
    | non => exact ⟨rfl, by simp [toPy, PyData.depth], by simp [toPy, PyData.canLay0]⟩
    | bl _ => exact ⟨rfl, by simp [toPy, PyData.depth], by simp [toPy, PyData.canLay0]⟩
    | int _ => exact ⟨rfl, by simp [toPy, PyData.depth], by simp [toPy, PyData.canLay0]⟩
    | str s =>
      have hs : PyData.strOk s = true := h
      exact ⟨rfl, by simp [toPy, PyData.depth], by simp [toPy, PyData.canLay0, hs]⟩
    | obj _ _ => cases h
    | scr _ => cases h
    | lst xs =>
      obtain ⟨a1, a2, a3⟩ := fines_plain (fine_plain n) xs (List.all_eq_true.1 (by unfold fine at h; exact h))
      exact ⟨by simp [plainD, a1], by simp [toPy, PyData.depth]; omega, by simp [toPy, PyData.canLay0, a3]⟩
    | tup xs =>
      obtain ⟨a1, a2, a3⟩ := fines_plain (fine_plain n) xs (List.all_eq_true.1 (by unfold fine at h; exact h))
      exact ⟨by simp [plainD, a1], by simp [toPy, PyData.depth]; omega, by simp [toPy, PyData.canLay0, a3]⟩
theorem fine_okQ {n : Nat} {d : D} (h : fine n d = true) (hn : n ≤ 64) : okQ d = true := by
  obtain ⟨a1, a2, a3⟩ := fine_plain n d h
  unfold okQ SeqAt.shaped
  rw [a1, a3, decide_eq_true (by omega : (toPy d).depth ≤ 64)]
  rfl
theorem good_mem {n : Nat} {xs : List D} (h : good (n + 1) (.lst xs) = true) : xs.length ≤ 1000000 ∧ ∀ x ∈ xs, good n x = true := by
  unfold good at h
  rw [Bool.and_eq_true] at h
  exact ⟨of_decide_eq_true h.1, List.all_eq_true.1 h.2⟩
theorem good_lst {n : Nat} {xs : List D} (h : xs.length ≤ 1000000) (hx : ∀ x ∈ xs, good n x = true) : good (n + 1) (.lst xs) = true := by
  unfold good
  rw [decide_eq_true h, List.all_eq_true.2 hx]
  rfl
theorem good_tup {n : Nat} {xs : List D} (h : xs.length ≤ 1000000) (hx : ∀ x ∈ xs, good n x = true) : good (n + 1) (.tup xs) = true := by
  unfold good
  rw [decide_eq_true h, List.all_eq_true.2 hx]
  rfl
theorem zip_self {xs : List D} {d : D} (h : d ∈ zipD xs xs) : ∃ x ∈ xs, d = .tup [x, x] := by
  obtain ⟨i, hi, e⟩ := List.getElem_of_mem h
  obtain ⟨x, y, e1, e2, e3⟩ := zip_get (List.getElem?_eq_some_iff.2 ⟨hi, e⟩)
  rw [e1] at e2; cases e2
  exact ⟨x, List.mem_of_getElem? e1, e3⟩
theorem zip_self_len (xs : List D) : (zipD xs xs).length = xs.length := by
  unfold zipD
  rw [List.length_map, List.length_zip, Nat.min_self]
theorem map_yes (xs : List D) (y : D) : (xs.map fun _ => y) = List.replicate xs.length y := List.map_const' ..
mutual
/-- the very same data (never said of objects) -/
def eqb : D → D → Bool
  | .non, .non => true
  | .bl a, .bl b => a == b
  | .int i, .int j => i == j
  | .str x, .str y => x == y
  | .lst xs, .lst ys => eqbs xs ys
  | .tup xs, .tup ys => eqbs xs ys
  | _, _ => false
def eqbs : List D → List D → Bool
  | [], [] => true
  | x :: xs, y :: ys => eqb x y && eqbs xs ys
  | _, _ => false
end
mutual
theorem eqb_eq : ∀ x y : D, eqb x y = true → x = y
  | .non, y, h => by cases y <;> first | rfl | cases h
  | .bl a, y, h => by cases y <;> first | (simp [eqb] at h; rw [h]) | cases h
  | .int a, y, h => by cases y <;> first | (simp [eqb] at h; rw [h]) | cases h
  | .str a, y, h => by cases y <;> first | (simp [eqb] at h; rw [h]) | cases h
  | .lst xs, y, h => by
    cases y with
    | lst ys => rw [eqbs_eq xs ys (by rw [← h, eqb])]
    | _ => cases h
  | .tup xs, y, h => by
    cases y with
    | tup ys => rw [eqbs_eq xs ys (by rw [← h, eqb])]
    | _ => cases h
  | .obj _ _, y, h => by cases y <;> cases h
  | .scr _, y, h => by cases y <;> cases h
theorem eqbs_eq : ∀ xs ys : List D, eqbs xs ys = true → xs = ys
  | [], [], _ => rfl
  | [], _ :: _, h => by cases h
  | _ :: _, [], h => by cases h
  | x :: xs, y :: ys, h => by
    rw [eqbs, Bool.and_eq_true] at h
    rw [eqb_eq x y h.1, eqbs_eq xs ys h.2]
end
def resIs : Res → D → Bool
  | .ok x, d => eqb x d
  | _, _ => false
theorem resIs_of {r : Res} {d : D} (h : resIs r d = true) : r = .ok d := by
  unfold resIs at h
  split at h
  · rw [eqb_eq _ _ h]
  · cases h
end Lq
namespace Lq
open PySem
/-! ### joined texts, sorted texts -/
theorem sum_len {c : Nat} : ∀ ws : List Str, (∀ w ∈ ws, w.length ≤ c) → (ws.map (·.length)).sum ≤ ws.length * c
  | [], _ => Nat.zero_le _
  | w :: r, h => by
    have h1 := sum_len r fun x hx => h x (List.mem_cons_of_mem _ hx)
    have h2 := h w List.mem_cons_self
    rw [List.map_cons, List.sum_cons, List.length_cons, Nat.add_mul, Nat.one_mul]
    omega
/-- words that may be joined: not too long, not too many -/
structure Wd (s : Nat) (ws : List Str) : Prop where
  few : ws.length ≤ 1000
  short : ∀ w ∈ ws, w.length ≤ 100
  free : ∀ w ∈ ws, s ∉ TL.tl w
  dash : ∀ w ∈ ws, w ≠ "-"
theorem Wd.room {s : Nat} {ws : List Str} (h : Wd s ws) {sep : Str} (hs : sep.length ≤ 10) : (ws.map (·.length)).sum + ws.length * sep.length ≤ 110000 := by
  have h1 := sum_len ws h.short
  have h2 : ws.length * sep.length ≤ 1000 * 10 := Nat.mul_le_mul h.few hs
  have h3 := h.few
  omega
theorem Wd.join_lst {s : Nat} {ws : List Str} (h : Wd s ws) {sep : Str} (hs : sep.length ≤ 10) : joinD sep [.lst (ws.map D.str)] = some (.str (Txt.join sep ws)) := by
  have := h.room hs
  rw [joinD]
  simp only [D.items?, allOf_map_str]
  rw [decide_eq_true (by omega : (ws.map (·.length)).sum + ws.length * sep.length ≤ 16777216), if_pos rfl]
theorem Wd.join_tup {s : Nat} {ws : List Str} (h : Wd s ws) {sep : Str} (hs : sep.length ≤ 10) : joinD sep [.tup (ws.map D.str)] = some (.str (Txt.join sep ws)) := by
  have := h.room hs
  rw [joinD]
  simp only [D.items?, allOf_map_str]
  rw [decide_eq_true (by omega : (ws.map (·.length)).sum + ws.length * sep.length ≤ 16777216), if_pos rfl]
theorem Wd.split {s : Nat} {ws : List Str} (h : Wd s ws) {sep : Str} {S : List Nat} (hs : sep.length ≤ 10) (ey : TL.tl sep = s :: S) (hk : sep.cps.all (· < 256) = true) (hn : ws ≠ []) : Txt.split (Txt.join sep ws) sep = ws :=
  TL.split_join ey hk hn h.free
theorem Wd.fits {s : Nat} {ws : List Str} (h : Wd s ws) {sep : Str} (hs : sep.length ≤ 10) : Lq.fits (Txt.join sep ws).length = true := by
  have h1 := h.room hs
  have h2 := StrLaws.join_length_le sep ws
  rw [← TL.join_eq] at h2
  exact fits_of (by omega)
theorem Wd.splitD {s : Nat} {ws : List Str} (h : Wd s ws) {sep : Str} {S : List Nat} (hs : sep.length ≤ 10) (ey : TL.tl sep = s :: S) (hk : sep.cps.all (· < 256) = true) (hn : ws ≠ []) : Lq.splitD (Txt.join sep ws) [.str sep] = some (.lst (ws.map D.str)) := by
  have h0 : (sep.length == 0) = false := by rw [TL.len_tl, ey]; rfl
  rw [Lq.splitD, h.fits hs, h.split hs ey hk hn, h0]
  rfl
theorem Wd.ne_dash {s : Nat} {ws : List Str} (h : Wd s ws) {sep : Str} {S : List Nat} (hs : sep.length ≤ 10) (ey : TL.tl sep = s :: S) (hk : sep.cps.all (· < 256) = true) (hn : ws ≠ []) (hd : Txt.split "-" sep = [("-" : Str)]) : Txt.join sep ws ≠ "-" := fun q => by
  have e := h.split hs ey hk hn
  rw [q, hd] at e
  exact h.dash "-" (by rw [← e]; exact List.mem_singleton.2 rfl) rfl
def LtS (x y : Str) : Prop := x.cps.toList < y.cps.toList
theorem insS_mem {x z : Str} : ∀ {r : List Str}, z ∈ insS x r ↔ z = x ∨ z ∈ r
  | [] => by simp [insS]
  | y :: r => by
    rw [insS]
    split
    · rw [List.mem_cons, insS_mem (r := r), List.mem_cons]
      constructor
      · rintro (h | h | h)
        · exact .inr (.inl h)
        · exact .inl h
        · exact .inr (.inr h)
      · rintro (h | h | h)
        · exact .inr (.inl h)
        · exact .inl h
        · exact .inr (.inr h)
    · rw [List.mem_cons]
theorem sortStrs_mem {z : Str} : ∀ {r : List Str}, z ∈ sortStrs r ↔ z ∈ r
  | [] => by simp [sortStrs]
  | y :: r => by rw [sortStrs, insS_mem, sortStrs_mem (r := r), List.mem_cons]
theorem insS_len {x : Str} : ∀ {r : List Str}, (insS x r).length = r.length + 1
  | [] => rfl
  | y :: r => by
    rw [insS]
    split
    · rw [List.length_cons, insS_len (r := r), List.length_cons]
    · rfl
theorem sortStrs_len : ∀ {r : List Str}, (sortStrs r).length = r.length
  | [] => rfl
  | y :: r => by rw [sortStrs, insS_len, sortStrs_len (r := r), List.length_cons]
theorem ltS_tri {x y : Str} (h : ¬ LtS y x) (hn : x ≠ y) : LtS x y := by
  unfold LtS at *
  refine Classical.byContradiction fun q => hn ?_
  have e : x.cps.toList = y.cps.toList := List.le_antisymm (List.not_lt.1 h) (List.not_lt.1 q)
  cases x; cases y; simp at e; rw [e]
theorem insS_up {x : Str} : ∀ {r : List Str}, r.Pairwise LtS → x ∉ r → (insS x r).Pairwise LtS
  | [], _, _ => by simp [insS]
  | y :: r, h, hn => by
    rw [List.pairwise_cons] at h
    rw [List.mem_cons, not_or] at hn
    rw [insS]
    split
    · rename_i q
      rw [List.pairwise_cons]
      refine ⟨fun z hz => ?_, insS_up h.2 hn.2⟩
      rcases insS_mem.1 hz with rfl | hz
      · show y.cps.toList < z.cps.toList; exact of_decide_eq_true q
      · exact h.1 z hz
    · rename_i q
      have hl : LtS x y := ltS_tri (fun w => q (decide_eq_true w)) hn.1
      rw [List.pairwise_cons]
      refine ⟨fun z hz => ?_, List.pairwise_cons.2 h⟩
      rcases List.mem_cons.1 hz with rfl | hz
      · exact hl
      · exact List.lt_trans hl (h.1 z hz)
theorem sortStrs_up : ∀ {r : List Str}, r.Nodup → (sortStrs r).Pairwise LtS
  | [], _ => by simp [sortStrs]
  | x :: r, h => by
    rw [List.nodup_cons] at h
    rw [sortStrs]
    exact insS_up (sortStrs_up h.2) fun q => h.1 (sortStrs_mem.1 q)
theorem sorted_strs {ws : List Str} {x : D} (hx : x.items? = some (ws.map D.str)) : sortedF [x] = some ((sortStrs ws).map D.str) := by
  rw [sortedF]
  simp only [hx]
  unfold sortDs
  cases ws with
  | nil => rfl
  | cons w r =>
    have e : allOf D.int? ((w :: r).map D.str) = none := by rw [List.map_cons, allOf]; rfl
    rw [e, allOf_map_str]
/-- ys is drawn from xs without repeats -/
theorem drawn_strs {xs : List Str} : ∀ {ys : List D}, (∀ y ∈ ys, y ∈ xs.map D.str) → ∃ ws : List Str, ys = ws.map D.str ∧ ∀ w ∈ ws, w ∈ xs
  | [], _ => ⟨[], rfl, fun _ h => by cases h⟩
  | y :: r, h => by
    obtain ⟨ws, e, hw⟩ := drawn_strs (ys := r) fun z hz => h z (List.mem_cons_of_mem _ hz)
    obtain ⟨w, hw1, e1⟩ := List.mem_map.1 (h y List.mem_cons_self)
    refine ⟨w :: ws, by rw [List.map_cons, ← e, e1], fun z hz => ?_⟩
    rcases List.mem_cons.1 hz with rfl | hz
    · exact hw1
    · exact hw z hz
theorem nodup_map_str {ws : List Str} : (ws.map D.str).Nodup ↔ ws.Nodup := by
  unfold List.Nodup
  rw [List.pairwise_map]
  constructor
  · exact fun h => h.imp fun q e => q (by rw [e])
  · exact fun h => h.imp fun q e => q (by cases e; rfl)
theorem pick_strs {pool : List Str} {ys zs : List D} (hp : (ys ++ zs).Perm (pool.map D.str)) (hn : pool.Nodup) : ∃ ws : List Str, ys = ws.map D.str ∧ (∀ w ∈ ws, w ∈ pool) ∧ ws.Nodup := by
  obtain ⟨ws, e, hw⟩ := drawn_strs (xs := pool) (ys := ys) fun y hy => hp.subset (List.mem_append_left _ hy)
  have h1 : (ys ++ zs).Nodup := hp.nodup_iff.2 (nodup_map_str.2 hn)
  have h2 : ys.Nodup := (List.nodup_append.1 h1).1
  rw [e] at h2
  exact ⟨ws, e, hw, nodup_map_str.1 h2⟩
end Lq
namespace Lq
open PySem PySem.Spec PyProof.Rows L2
/-! ### an error that is caught and kept behind its suite: from the suite on it is an object like others -/
section
variable {X : Cx} {pins : List (Addr × Obj)} {σ : L2.St} {H : Hp} {s : Shared}
theorem exK_ok {P : Program} {w : World} {H : Hp} {h : Heap} {C d a : Addr} {oe : Obj} {vs : Array Value} (e : h.get? a = some oe) (z : Zc (.ref C) (some d) oe) (hd : oe.data = .fields vs) : ObjOk P w H h a (ExK C d a) :=
  ⟨⟨oe, vs, e, z, hd⟩, ⟨oe, e⟩, fun _ _ ⟨o, v, q, r⟩ k => ⟨o, v, k o q, r⟩⟩
/-- an object that no one knew is known from now on -/
theorem inv_know {a : Addr} {o : HO} (I : Inv X pins σ H s) (n0 : X.s_0.heap.get? a = none) (na : H a = none) (nL : a ≠ X.env.locals) (nC : ∀ x c, X.env.cells.lookup x = some c → c ≠ a) (nP : ∀ p ∈ X.pn ++ pins, p.1 ≠ a) (new : ObjOk X.prog X.w (upd H a o) s.heap a o) :
    Inv X pins σ (upd H a o) s where
  ok := I.ok
  os := I.os
  bare := I.bare
  base := {
    keep := I.base.keep
    slot := I.base.slot
    free := fun b u q n hx => (upd_ne (fun z => by rw [z, n0] at q; cases q)).trans (I.base.free b u q n hx)
    there := I.base.there
    tups := fun b xs q => have z := I.base.tups b xs q; (upd_ne (ne_of_none z na)).trans z
    frzs := fun b u xs q => have z := I.base.frzs b u xs q; (upd_ne (ne_of_none z na)).trans z
    tbls := fun b ps q => have ⟨m, z⟩ := I.base.tbls b ps q; ⟨m, (upd_ne (ne_of_none z na)).trans z⟩ }
  loc := I.loc
  cell := I.cell
  free := (upd_ne (Ne.symm nL)).trans I.free
  freeC := fun x c e => (upd_ne (nC x c e)).trans (I.freeC x c e)
  pin := fun p hp => have ⟨h1, h2, h3⟩ := I.pin p hp; ⟨h1, (upd_ne (nP p hp)).trans h2, h3⟩
  hok := I.hok.laidN (fun _ _ q => q) na new
  len := I.len
theorem inv_in (I : Inv X pins σ H s) (a : Addr) : Inv (X.suite a (X.pn ++ pins)) [] σ H s where
  ok := I.ok.suite _ _
  os := I.os
  bare := I.bare
  base := I.base
  loc := I.loc
  cell := I.cell
  free := I.free
  freeC := I.freeC
  pin := fun p hp => I.pin p (by simpa using hp)
  hok := I.hok
  len := I.len
theorem inv_out {a : Addr} {qs : List (Addr × Obj)} (I : Inv (X.suite a (X.pn ++ pins)) qs σ H s) (ok : X.Ok) : Inv X pins σ H s where
  ok := ok
  os := I.os
  bare := I.bare
  base := I.base
  loc := I.loc
  cell := I.cell
  free := I.free
  freeC := I.freeC
  pin := fun p hp => I.pin p (List.mem_append.mpr (Or.inl hp))
  hok := I.hok
  len := I.len
/-- an error a in flight at the frame of X; s0: what stood before it was made -/
structure Down (X : Cx) (pins : List (Addr × Obj)) (σ : L2.St) (H : Hp) (a : Addr) (cls : Value) (d : Option Addr) (B : Heap) (s0 s : Shared) : Prop where
  inv : Inv X pins σ H s0
  gr : ∀ b o, s0.heap.get? b = some o → b ∉ frs X.stack → B.get? b = some o
  up : s0.heap.UpToSlots s.heap
  no : H a = none
  os : s.os = s0.os
  bare : AllBare s.gens
  fly : HandSPX.FlyingZ B X.stack a (Zc cls d) s.heap
variable {a : Addr} {cls : Value} {d : Option Addr} {B : Heap} {s0 : Shared}
theorem Down.here (w : Down X pins σ H a cls d B s0 s) : Inv X pins σ H s := Inv.landed w.inv w.gr w.fly.1 w.up w.os w.bare
theorem Down.obj (w : Down X pins σ H a cls d B s0 s) : ∃ oe vs, s.heap.get? a = some oe ∧ Zc cls d oe ∧ oe.data = .fields vs := HandSPX.FlyingZ.there w.fly
theorem Down.off (w : Down X pins σ H a cls d B s0 s) : a ∉ frs X.stack := fun m => by
  obtain ⟨oe, vs, e, _, q⟩ := w.obj
  obtain ⟨_, o, e', no⟩ := w.fly.2.2.1.mem m
  cases e.symm.trans e'
  exact no vs q
theorem Down.new (w : Down X pins σ H a cls d B s0 s) : s0.heap.get? a = none := by
  cases e : s0.heap.get? a with
  | none => rfl
  | some o => cases (w.gr a o e w.off).symm.trans w.fly.2.1
theorem Down.known {C dd : Addr} (w : Down X pins σ H a (.ref C) (some dd) B s0 s) (hs : X.stack = X.env :: X.outer) (hf : X.env.frame = some X.env.locals) (hex : X.ex = []) : Inv X pins σ (upd H a (ExK C dd a)) s := by
  obtain ⟨oe, vs, e, z, q⟩ := w.obj
  refine inv_know w.here ?_ w.no (fun y => w.off ?_) (fun x c ec y => ?_) (fun p hp y => ?_) (exK_ok e z q)
  · cases e0 : X.s_0.heap.get? a with
    | none => rfl
    | some o =>
      obtain ⟨o', z'⟩ := w.inv.base.there a o e0 (hex ▸ List.not_mem_nil)
      cases w.new.symm.trans z'
  · rw [hs, y]
    exact List.mem_filterMap.mpr ⟨_, List.mem_cons_self, hf⟩
  · obtain ⟨v, o, e1, _⟩ := w.inv.cell x c ec
    rw [y] at e1
    cases w.new.symm.trans e1
  · have e1 := (w.inv.pin p hp).1
    rw [y] at e1
    cases w.new.symm.trans e1
/-- the clause's name goes when its suite has ended -/
theorem suite_end {M : Model} {n : Str} {i : Nat} {pos : Pos} {D : Ends} {f : Flow} {s6 : Shared} (ok : X.Ok) (hN : X.N.Nodup) (hi : X.N[i]? = some n) (hl : X.env.kindOf n = some .local)
    (h : SP (X.suite a (X.pn ++ pins)) [] { nx := fun σ' H' => D.nx (σ'.set i none) H', rt := D.rt, bk := fun σ' H' => D.bk (σ'.set i none) H', ct := fun σ' H' => D.ct (σ'.set i none) H' } f s6) :
    wpAny M X.A (do bindName X.env n .none; unbindBehindTheSuite X.env n pos) (fun _ s7 => SP X pins D f s7) X.xe s6 := by
  cases f with
  | ret u => obtain ⟨v, σ', H', J, r, q⟩ := h; exact gone_ok (inv_out J ok) hN hi hl fun _ I => ⟨v, _, H', I, r, q⟩
  | next => obtain ⟨σ', H', J, q⟩ := h; exact gone_ok (inv_out J ok) hN hi hl fun _ I => ⟨_, H', I, q⟩
  | brk => obtain ⟨σ', H', J, q⟩ := h; exact gone_ok (inv_out J ok) hN hi hl fun _ I => ⟨_, H', I, q⟩
  | cont => obtain ⟨σ', H', J, q⟩ := h; exact gone_ok (inv_out J ok) hN hi hl fun _ I => ⟨_, H', I, q⟩
theorem body_end {pn : List (Addr × Obj)} {xe : Value → Shared → Prop} {D : Ends} {f : Flow} {s1 : Shared} (ok : X.Ok) (h : SP (X.tr (X.pn ++ pins) xe) [] D f s1) : SP X pins D f s1 := by
  cases f with
  | ret u => obtain ⟨v, σ', H', J, r⟩ := h; exact ⟨v, σ', H', J.ofTry ok, r⟩
  | next => obtain ⟨σ', H', J, q⟩ := h; exact ⟨σ', H', J.ofTry ok, q⟩
  | brk => obtain ⟨σ', H', J, q⟩ := h; exact ⟨σ', H', J.ofTry ok, q⟩
  | cont => obtain ⟨σ', H', J, q⟩ := h; exact ⟨σ', H', J.ofTry ok, q⟩
end
/-- what the clause wishes of an error of its body -/
def wKeep (K : PySem.W.Frag) (c : Value) (i : Nat) (ts : TS) (Wout : WX) (D : Ends) : WX := fun cls d σ H =>
  ∃ b, PySem.W.exmOne K cls c = some b ∧ (b = false → Wout cls d σ H) ∧ (b = true → ∃ C dd, cls = .ref C ∧ d = some dd ∧ ∀ a, H a = none →
    ts { nx := fun σ' H' => D.nx (σ'.set i none) H', rt := D.rt, bk := fun σ' H' => D.bk (σ'.set i none) H', ct := fun σ' H' => D.ct (σ'.set i none) H' } (σ.set i (some (.ref a))) (upd H a (ExK C dd a)))
section
variable {X : Cx} {pins : List (Addr × Obj)} {σ : L2.St} {H : Hp} {a : Addr} {cls : Value} {d : Option Addr} {B : Heap} {s0 s : Shared} {x n : Str} {c : Value} {i : Nat} {body suite : List Stmt} {b₀ : Stmt} {np pos pos' : Pos} {tb : WX → TS} {ts : TS} {Wout : WX} {D : Ends}
theorem Down.names (w : Down X pins σ H a cls d B s0 s) (hc : Names X x c) {Q : Value → Shared → Prop} {E : Value → Shared → Prop} (q : Q c s) : wpAny (model X.prog X.w) (X.A.mark (some (.ref a))) (eval (.Name x np) X.env) Q E s :=
  match hc with
  | ⟨hg, hd, .inl hm⟩ => ld_glob (X := X.suite a (X.pn ++ pins)) (inv_in w.here a) hg hm q hd
  | ⟨hg, hd, .inr ⟨hm, hv, hn⟩⟩ => ld_blt (X := X.suite a (X.pn ++ pins)) (inv_in w.here a) hg hm hv q hn hd
theorem Down.clause (w : Down X pins σ H a cls d B s0 s) (hs : X.stack = X.env :: X.outer) (hf : X.env.frame = some X.env.locals) (hex : X.ex = []) (hN : X.N.Nodup) (hi : X.N[i]? = some n) (hl : X.env.kindOf n = some .local) (hc : Names X x c) (tk : Takes X Wout)
    (hsu : ∀ (a : Addr) (pn : List (Addr × Obj)), PSs (X.suite a pn) (b₀ :: suite) ts) (hw : wKeep X.K c i ts Wout D cls d σ H) :
    wpAny (model X.prog X.w) X.A (handleBy (.ref a) X.env [.ExceptHandler (some (.Name x np)) (some n) (b₀ :: suite) pos']) (SP X pins D) X.xe s := by
  obtain ⟨b, hb, hno, hyes⟩ := hw
  have lk := PySem.W.exm_one (M := model X.prog X.w) (e := a) w.here.kIn (by
    obtain ⟨oe, vs, e, z, _⟩ := w.obj
    exact fun A Q E s k q => wpAny_typeOf_ref (k _ _ e) (z.1.symm ▸ q)) hb
  refine wpAny_handleBy_cons (codeAny_handlers_test (w.names hc (lk.here ?_))) (fun q => nomatch q)
  cases b with
  | true =>
    obtain ⟨C, dd, rfl, rfl, hy⟩ := hyes rfl
    refine codeAny_handlers_suite_as (HandSPX.lands_againZ w.fly fun h fl up => ?_)
    have w' : Down X pins σ H a (.ref C) (some dd) B s0 { s with heap := h } := ⟨w.inv, w.gr, w.up.trans up, w.no, w.os, w.bare, fl⟩
    refine store_ok (X := X.suite a (X.pn ++ pins)) (v := .ref a) (inv_in (w'.known hs hf hex) a) hN hi (Or.inl hl) rfl (fun s5 I5 => ?_) (Or.inr hl)
    exact wpAny_mono ((hsu a (X.pn ++ pins)).run [] s5 _ _ _ I5 (hy a w.no)) (fun f s6 q => suite_end w.inv.ok hN hi hl q) fun _ _ z => z.elim
  | false =>
    show wpAny _ X.A (handleBy (.ref a) X.env []) _ _ _
    have out : wpAny (model X.prog X.w) X.A (setFlight (.ref a) X.env.frame) (fun _ s4 => wpAny (model X.prog X.w) X.A (throw (.ref a) : Sem Flow) (SP X pins D) X.xe s4) X.xe s := by
      rw [hf]
      exact HandSPX.setFlight_upZ w.fly fun h hh up => wpAny_throw (tk _ _ ⟨a, B, s0, pins, σ, H, cls, d, rfl, w.inv, w.gr, w.up.trans up, Or.inr (Or.inr hh), w.no, w.os, w.bare, hno rfl⟩)
    obtain ⟨_, _, _, oe, vs, t, _, _, e, _, q, e1, _⟩ := id w.fly
    refine wpAny_handleBy_nil ?_
    unfold PySem.passOn
    refine wpAny_bind (wpAny_field e q e1 ?_)
    have hn : (Value.ref t == Value.none) = false := by simp
    rw [hn]
    first
      | exact wpAny_bind out
      | exact wpAny_bind (wpAny_pure (wpAny_bind out))
theorem ps_keep (hs : X.stack = X.env :: X.outer) (hf : X.env.frame = some X.env.locals) (hex : X.ex = []) (hN : X.N.Nodup) (hi : X.N[i]? = some n) (hl : X.env.kindOf n = some .local) (hc : Names X x c) (tk : Takes X Wout)
    (hb : ∀ (W : WX) (pn : List (Addr × Obj)) (xe : Value → Shared → Prop), Takes (X.tr pn xe) W → PassesOwn (model X.prog X.w) X.A X.env xe → PSs (X.tr pn xe) body (tb W))
    (hsu : ∀ (a : Addr) (pn : List (Addr × Obj)), PSs (X.suite a pn) (b₀ :: suite) ts) :
    PS X (.Try body [.ExceptHandler (some (.Name x np)) (some n) (b₀ :: suite) pos'] [] [] pos) (fun D σ H => tb (wKeep X.K c i ts Wout D) D σ H) := by
  refine ⟨fun pins s σ H D I h => wpAny_Try_except (wpAny_mono ((hb _ (X.pn ++ pins) _ ?_ PassesOwn.looking).run [] s σ H D (I.toTry _) h) (fun f s1 q => ?_) fun _ _ q => q)⟩
  · rintro u s' ⟨a, B, s0, pins', σ', H', cls, d, rfl, J, gr, up, sky, na, os, ag, hw⟩
    refine Sky.land Zc.steady (by rw [I.ok.frames, hs]) hf (hs ▸ sky) fun h fl up2 => ?_
    exact Down.clause (pins := pins) ⟨J.ofTry I.ok, gr, up.trans up2, na, os, ag, hs.symm ▸ fl⟩ hs hf hex hN hi hl hc tk hsu hw
  · have e := body_end (pn := X.pn) I.ok q
    cases f with
    | next => exact wpAny_execs_nil e
    | _ => exact e
end
end Lq
namespace Lq
open PySem PySem.Spec PyProof.Rows L2
/-! ### several clauses -/
def PH (X : Cx) (hs : List ExceptHandler) (w : Ends → WX) : Prop := ∀ (pins : List (Addr × Obj)) (σ : L2.St) (H : Hp) (a : Addr) (cls : Value) (d : Option Addr) (B : Heap) (s0 s : Shared) (De : Ends),
  Down X pins σ H a cls d B s0 s → w De cls d σ H → wpAny (model X.prog X.w) X.A (handleBy (.ref a) X.env hs) (SP X pins De) X.xe s
section
variable {X : Cx} {x n : Str} {c : Value} {i : Nat} {body suite : List Stmt} {b₀ : Stmt} {h₀ : ExceptHandler} {hs : List ExceptHandler} {np pos pos' : Pos} {tb : WX → TS} {ts : TS} {Wout : WX} {w : Ends → WX}
theorem ph_nil (hst : X.stack = X.env :: X.outer) (hf : X.env.frame = some X.env.locals) (tk : Takes X Wout) : PH X [] (fun _ => Wout) := by
  intro pins σ H a cls d B s0 s De w hno
  have out : wpAny (model X.prog X.w) X.A (setFlight (.ref a) X.env.frame) (fun _ s4 => wpAny (model X.prog X.w) X.A (throw (.ref a) : Sem Flow) (SP X pins De) X.xe s4) X.xe s := by
    rw [hf]
    exact HandSPX.setFlight_upZ w.fly fun h hh up => wpAny_throw (tk _ _ ⟨a, B, s0, pins, σ, H, cls, d, rfl, w.inv, w.gr, w.up.trans up, Or.inr (Or.inr hh), w.no, w.os, w.bare, hno⟩)
  obtain ⟨_, _, _, oe, vs, t, _, _, e, _, q, e1, _⟩ := id w.fly
  refine wpAny_handleBy_nil ?_
  unfold PySem.passOn
  refine wpAny_bind (wpAny_field e q e1 ?_)
  have hn : (Value.ref t == Value.none) = false := by simp
  rw [hn]
  first
    | exact wpAny_bind out
    | exact wpAny_bind (wpAny_pure (wpAny_bind out))
/-- what the clause and those behind it wish of an error of the body -/
def wClause (K : PySem.W.Frag) (c : Value) (i : Nat) (ts : TS) (w : Ends → WX) (D : Ends) : WX := fun cls d σ H =>
  ∃ b, PySem.W.exmOne K cls c = some b ∧ (b = false → w D cls d σ H) ∧ (b = true → ∃ C dd, cls = .ref C ∧ d = some dd ∧ ∀ a, H a = none →
    ts { nx := fun σ' H' => D.nx (σ'.set i none) H', rt := D.rt, bk := fun σ' H' => D.bk (σ'.set i none) H', ct := fun σ' H' => D.ct (σ'.set i none) H' } (σ.set i (some (.ref a))) (upd H a (ExK C dd a)))
theorem ph_as (hst : X.stack = X.env :: X.outer) (hf : X.env.frame = some X.env.locals) (hex : X.ex = []) (hN : X.N.Nodup) (hi : X.N[i]? = some n) (hl : X.env.kindOf n = some .local) (hc : Names X x c)
    (hsu : ∀ (a : Addr) (pn : List (Addr × Obj)), PSs (X.suite a pn) (b₀ :: suite) ts) (hr : PH X hs w) : PH X (.ExceptHandler (some (.Name x np)) (some n) (b₀ :: suite) pos' :: hs) (wClause X.K c i ts w) := by
  intro pins σ H a cls d B s0 s De w hw
  obtain ⟨b, hb, hno, hyes⟩ := hw
  have lk := PySem.W.exm_one (M := model X.prog X.w) (e := a) w.here.kIn (by
    obtain ⟨oe, vs, e, z, _⟩ := w.obj
    exact fun A Q E s k q => wpAny_typeOf_ref (k _ _ e) (z.1.symm ▸ q)) hb
  refine wpAny_handleBy_cons (codeAny_handlers_test (w.names hc (lk.here ?_))) (fun q => nomatch q)
  cases b with
  | true =>
    obtain ⟨C, dd, rfl, rfl, hy⟩ := hyes rfl
    refine codeAny_handlers_suite_as (HandSPX.lands_againZ w.fly fun h fl up => ?_)
    have w' : Down X pins σ H a (.ref C) (some dd) B s0 { s with heap := h } := ⟨w.inv, w.gr, w.up.trans up, w.no, w.os, w.bare, fl⟩
    refine store_ok (X := X.suite a (X.pn ++ pins)) (v := .ref a) (inv_in (w'.known hst hf hex) a) hN hi (Or.inl hl) rfl (fun s5 I5 => ?_) (Or.inr hl)
    exact wpAny_mono ((hsu a (X.pn ++ pins)).run [] s5 _ _ _ I5 (hy a w.no)) (fun f s6 q => suite_end w.inv.ok hN hi hl q) fun _ _ z => z.elim
  | false =>
    exact hr pins σ H a cls d B s0 s De w (hno rfl)
theorem ps_tryH (hst : X.stack = X.env :: X.outer) (hf : X.env.frame = some X.env.locals)
    (hb : ∀ (W : WX) (pn : List (Addr × Obj)) (xe : Value → Shared → Prop), Takes (X.tr pn xe) W → PassesOwn (model X.prog X.w) X.A X.env xe → PSs (X.tr pn xe) body (tb W)) (hh : PH X (h₀ :: hs) w) :
    PS X (.Try body (h₀ :: hs) [] [] pos) (fun D σ H => tb (w D) D σ H) := by
  refine ⟨fun pins s σ H D I h => wpAny_Try_except (wpAny_mono ((hb _ (X.pn ++ pins) _ ?_ PassesOwn.looking).run [] s σ H D (I.toTry _) h) (fun f s1 q => ?_) fun _ _ q => q)⟩
  · rintro u s' ⟨a, B, s0, pins', σ', H', cls, d, rfl, J, gr, up, sky, na, os, ag, hw⟩
    refine Sky.land Zc.steady (by rw [I.ok.frames, hst]) hf (hst ▸ sky) fun h fl up2 => ?_
    exact hh pins σ' H' a cls d B s0 _ D ⟨J.ofTry I.ok, gr, up.trans up2, na, os, ag, hst.symm ▸ fl⟩ hw
  · have e := body_end (pn := X.pn) I.ok q
    cases f with
    | next => exact wpAny_execs_nil e
    | _ => exact e
end
/-! ### over plain data -/
def goneS (i : Nat) : O → O
  | .nx ρ => .nx (ρ.set i .no)
  | .bk ρ => .bk (ρ.set i .no)
  | .ct ρ => .ct (ρ.set i .no)
  | .err _ _ => .bad
  | r => r
def hNil : Xn → Rho → O := fun x ρ => .err x ρ
def hAs (ex : List (Nat × Bool)) (i : Nat) (g : Rho → O) (rest : Xn → Rho → O) : Xn → Rho → O := fun x ρ => match ex.lookup x.t with
  | some true => if isEx x.t then goneS i (g (ρ.set i (.d (.obj x.t x.fs)))) else .bad
  | some false => rest x ρ
  | none => .bad
def tryS (g : Rho → O) (h : Xn → Rho → O) : Rho → O := fun ρ => match g ρ with
  | .err x ρ1 => h x ρ1
  | r => r
def XH (X : Cx) (T : Tb) (W : WX) (hs : List ExceptHandler) (h : Xn → Rho → O) : Prop := PH X hs fun De cls d σ H => ∃ β G S ρ x, Ok X.K T β G S σ ρ H ∧ XR X.K T S x cls d ∧ PostS X.K T W β G S (h x ρ) De
theorem PH.impQ {X : Cx} {hs : List ExceptHandler} {w w' : Ends → WX} (h : PH X hs w) (i : ∀ De c d σ H, w' De c d σ H → w De c d σ H) : PH X hs w' := fun pins σ H a cls d B s0 s De dn q => h pins σ H a cls d B s0 s De dn (i De cls d σ H q)
section
variable {X : Cx} {T : Tb} {W : WX} {x n : Str} {c : Value} {i : Nat} {body suite : List Stmt} {b₀ : Stmt} {h₀ : ExceptHandler} {hs : List ExceptHandler} {np pos pos' : Pos} {g : Rho → O} {h : Xn → Rho → O} {ex : List (Nat × Bool)}
theorem xh_nil (hst : X.stack = X.env :: X.outer) (hf : X.env.frame = some X.env.locals) (tk : Takes X W) : XH X T W [] hNil := (ph_nil hst hf tk).impQ fun De cls d σ H q => by
  obtain ⟨β, G, S, ρ, x, o, xr, p⟩ := q
  exact p S σ H cls d (Same.refl _) o xr
theorem xh_as (i : Nat) (hst : X.stack = X.env :: X.outer) (hf : X.env.frame = some X.env.locals) (hex : X.ex = []) (hN : X.N.Nodup) (hc : Names X x c) (hx : ∀ t b, ex.lookup t = some b → PySem.W.exmOne X.K (.ref (T t)) c = some b)
    (hsu : ∀ (a : Addr) (pn : List (Addr × Obj)), XB (X.suite a pn) T W0 (b₀ :: suite) g) (hr : XH X T W hs h) (hi : X.N[i]? = some n := by rfl) (hl : X.env.kindOf n = some .local := by rfl) : XH X T W (.ExceptHandler (some (.Name x np)) (some n) (b₀ :: suite) pos' :: hs) (hAs ex i g h) :=
  (ph_as (ts := rS X.K T W0 g) hst hf hex hN hi hl hc hsu hr).impQ fun De cls d σ H q => by
    obtain ⟨β, G, S, ρ, x, o, xr, p⟩ := q
    obtain ⟨rfl, dd, vs, rfl, hd, rps⟩ := xr
    unfold hAs at p
    cases hb : ex.lookup x.t with
    | none => rw [hb] at p; exact p.elim
    | some b =>
      refine ⟨b, hx _ _ hb, fun z => ?_, fun z => ?_⟩
      · subst z
        rw [hb] at p
        exact ⟨β, G, S, ρ, x, o, ⟨rfl, dd, vs, rfl, hd, rps⟩, p⟩
      · subst z
        rw [hb] at p
        dsimp only at p
        split at p
        case isFalse => exact p.elim
        case isTrue ie =>
        refine ⟨_, _, rfl, rfl, fun a ha => ?_⟩
        have e1 := Ext.new (S := S) (H := H) (p := a) (o := ExK (T x.t) dd a) o.sh ha
        have sn : Same S (upd S a (ExK (T x.t) dd a)) := same_new (o.sh.free ha)
        have o1 := (o.ext e1).setD (i := i) (x := .obj x.t x.fs) (v := .ref a) ⟨a, vs, rfl, .inl ⟨ie, dd, upd_same, sn _ _ hd⟩, Rps.mono sn _ _ rps⟩
        refine ⟨β, G, _, _, o1, ?_⟩
        have p1 := p.mono sn
        revert p1
        cases g (ρ.set i (.d (.obj x.t x.fs))) with
        | nx ρ1 => exact fun p1 S' σ' H' e o' => p1 S' _ H' e o'.setN
        | bk ρ1 => exact fun p1 S' σ' H' e o' => p1 S' _ H' e o'.setN
        | ct ρ1 => exact fun p1 S' σ' H' e o' => p1 S' _ H' e o'.setN
        | rt v ρ1 => exact fun p1 => p1
        | rf ds ρ1 => exact fun p1 => p1
        | err x ρ1 => exact fun p1 => p1.elim
        | bad => exact fun p1 => p1
theorem xs_try (hst : X.stack = X.env :: X.outer) (hf : X.env.frame = some X.env.locals)
    (hb : ∀ (W : WX) (pn : List (Addr × Obj)) (xe : Value → Shared → Prop), Takes (X.tr pn xe) W → PassesOwn (model X.prog X.w) X.A X.env xe → XB (X.tr pn xe) T W body g) (hh : XH X T W (h₀ :: hs) h) :
    XS X T W (.Try body (h₀ :: hs) [] [] pos) (tryS g h) := (ps_tryH (tb := fun W => rS X.K T W g) hst hf hb hh).impQ fun De σ H q => by
  obtain ⟨β, G, S, ρ, o, p⟩ := q
  refine ⟨β, G, S, ρ, o, ?_⟩
  unfold tryS at p
  revert p
  cases g ρ with
  | err x ρ1 => exact fun p S' σ' H' c d e o' xr => ⟨β, G, S', ρ1, x, o', xr, p.mono e⟩
  | nx ρ1 => exact fun p => p
  | bk ρ1 => exact fun p => p
  | ct ρ1 => exact fun p => p
  | rt v ρ1 => exact fun p => p
  | rf ds ρ1 => exact fun p => p
  | bad => exact fun p => p
end
end Lq
namespace Lq
open PySem PySem.Spec PyProof.Rows L2
/-! ### an own error is made: by any arguments that the call has -/
section
variable {X : Cx} {p pos : Pos} {e : Expr} {es : List Expr}
/-- the call itself, behind the arguments -/
theorem mk_called {x : Str} {C fI : Addr} {k : Nat} {fd : FuncData} {ps : List Str} {sp : Sp} (T : OexC X.K C) (iC : PySem.W.findIn X.K (.ref C) "__init__" = some (some (.ref fI))) (tI : PySem.W.typeIn X.K (.ref fI) = some (.type "function"))
    (F1 : FnOk X.prog X.w X.K X.mg X.base (L2.CX X.prog X.w) k fI fd ps sp) (hr : Room (k + 1) X.A) (hb : Binds X.K fd ps []) {pins : List (Addr × Obj)} {σ : L2.St} {H1 : Hp} {s1 : Shared} {us : List Value} {vs : List V} {Q : L2.XK} (I1 : Inv X pins σ H1 s1) (r1 : Vals vs us) (hz : vs.length ≤ 1000)
    (q1 : ∀ a, H1 a = none → sp (.ref a :: vs) (upd H1 a (exo a C none)) (fun v H2 => v = .non ∧ ∃ (d : Addr) (fs : List (Str × V)), H2 a = some (exo a C (some d)) ∧ H2 d = some (exd d fs) ∧ H1 d = none ∧ Q (.ref C) (some d) (upd (L2.del H2 a) d (.xd fs))) (fun _ _ _ => False)) :
    wpAny (model X.prog X.w) X.A (call (.ref C) us) (MkP X pins σ Q) X.xe s1 := by
  obtain ⟨nm, q, N, bs, bm, sn, sub, ab, col, dd, k0, k1, k2, k3, k5, hC, hbm⟩ := T.cls
  obtain ⟨hp, g, dr, tk, os⟩ := s1
  have hsz : hp.objs.size ≤ hp.objs.size + 1 := Nat.le_succ _
  have hn : H1 (hp.objs.size + 1) = none := I1.hok.fresh hsz
  have hq := q1 (hp.objs.size + 1) hn
  have kk : ∀ b o, hp.get? b = some o → ((hp.push (PySem.W.kdv_tup us)).push (PySem.HandSPX.excO C hp.objs.size)).get? b = some o := fun b o e => Heap.get?_push_of_some _ (Heap.get?_push_of_some _ e)
  have hget : ((hp.push (PySem.W.kdv_tup us)).push (PySem.HandSPX.excO C hp.objs.size)).get? (hp.objs.size + 1) = some (PySem.HandSPX.excO C hp.objs.size) := by heap_get
  have I2 : Inv X pins σ (upd H1 (hp.objs.size + 1) (exo (hp.objs.size + 1) C none)) ⟨(hp.push (PySem.W.kdv_tup us)).push (PySem.HandSPX.excO C hp.objs.size), g, dr, tk, os⟩ :=
    I1.laid (t' := tk) (a := hp.objs.size + 1) (o := exo (hp.objs.size + 1) C none) (h' := (hp.push (PySem.W.kdv_tup us)).push (PySem.HandSPX.excO C hp.objs.size)) kk hsz (exo_ok hget)
  have r2 : Vals (V.ref (hp.objs.size + 1) :: vs) (Value.ref (hp.objs.size + 1) :: us) := .cons rfl r1
  have hl : (Value.ref (hp.objs.size + 1) :: us ++ []).length = ps.length := by
    have e := r2.length
    rw [F1.len _ _ _ _ hq] at e
    rw [List.append_nil]
    exact e.symm
  have hus : us.length ≤ sizeLine := by
    rw [← Paired.length r1, sizeLine_eq]
    omega
  have hbb := hb _ (Value.ref (hp.objs.size + 1) :: us) I2.kIn hl
  rw [List.append_nil] at hbb
  refine wpAny_call (PySem.HandSPX.call_own F.excBase_ValueError (fun Y => PySem.HandSPX.refsVE_contains Y bm hbm) (I1.kIn _ _ hC) (PySem.W.looks_findIn I1.kIn iC) (fun self => PySem.W.bind_fn I1.kIn self tI) hus
    (codeAny_mono (F1.run _ X.stack _ _ ⟨Value.ref (hp.objs.size + 1) :: us, []⟩ (Value.ref (hp.objs.size + 1) :: us) _ _ (fun _ _ _ => False) (hr.make C us []) (I2.env0.make C us []) hbb r2 hq) fun r s' hq' => ?_))
  cases r with
  | error er => exact (cx_no hq').elim
  | ok fl =>
    cases fl with
    | ret u =>
      obtain ⟨v, H2, os2, bare2, un2, hok2, rv, ev, d, fs, ea, ed, hd1, q2⟩ := hq'
      subst ev
      obtain ⟨h2, g2, d2, t2, os'⟩ := s'
      exact ⟨rv, mk_end (raises_own T.exC T.tyC) I1 hsz kk un2 hok2 os2 bare2 ea ed hd1 q2⟩
    | next => exact False.elim hq'
    | brk => exact False.elim hq'
    | cont => exact False.elim hq'
def tMkX (C : Addr) (sp : Sp) (ta : TA) : L2.St → Hp → L2.XK → Prop := fun σ H Q => ta σ H fun vs H1 => vs.length ≤ 1000 ∧ ∀ a, H1 a = none → sp (.ref a :: vs) (upd H1 a (exo a C none))
  (fun v H2 => v = .non ∧ ∃ (d : Addr) (fs : List (Str × V)), H2 a = some (exo a C (some d)) ∧ H2 d = some (exd d fs) ∧ H1 d = none ∧ Q (.ref C) (some d) (upd (L2.del H2 a) d (.xd fs))) (fun _ _ _ => False)
theorem pmk_x1 {x : Str} {C fI : Addr} {k : Nat} {fd : FuncData} {ps : List Str} {sp : Sp} {ta : TA} (T : OexC X.K C) (iC : PySem.W.findIn X.K (.ref C) "__init__" = some (some (.ref fI))) (tI : PySem.W.typeIn X.K (.ref fI) = some (.type "function"))
    (F1 : FnOk X.prog X.w X.K X.mg X.base (L2.CX X.prog X.w) k fI fd ps sp) (hr : Room (k + 1) X.A) (hb : Binds X.K fd ps []) (hm : X.mg x = some (.ref C)) (ha : PA X (e :: es) ta) (hg : L2.Gl X x := by rfl)
    (hdb : (x == ("__debug__" : Str)) = false := by decide) (he : starEach (e :: es) X.env = (false, eval e X.env) :: starEach es X.env := by rfl) (hpl : (backTo pos (starEach es X.env)).any (·.1) = false := by rfl) :
    PMk X (.Call (.Name x p) (e :: es) [] pos) (tMkX C sp ta) := by
  intro pins s σ H Q I h
  refine wpAny_Call_Name_kw (ld_glob I hg hm ?_ hdb)
  refine PySem.W.callWith_K (h₀ := X.base) I.ok.mod.kin T.kC (thn (ha.run pos pins s σ H _ I h) fun us s1 ⟨vs, H1, I1, r1, hz, q1⟩ => ⟨I1.kIn, ?_⟩) he hpl
  exact mk_called (x := x) T iC tI F1 hr hb I1 r1 hz q1
theorem pmk_x0 {x : Str} {C fI : Addr} {k : Nat} {fd : FuncData} {ps : List Str} {sp : Sp} (T : OexC X.K C) (iC : PySem.W.findIn X.K (.ref C) "__init__" = some (some (.ref fI))) (tI : PySem.W.typeIn X.K (.ref fI) = some (.type "function"))
    (F1 : FnOk X.prog X.w X.K X.mg X.base (L2.CX X.prog X.w) k fI fd ps sp) (hr : Room (k + 1) X.A) (hb : Binds X.K fd ps []) (hm : X.mg x = some (.ref C)) (hg : L2.Gl X x := by rfl) (hdb : (x == ("__debug__" : Str)) = false := by decide) :
    PMk X (.Call (.Name x p) [] [] pos) (tMkX C sp (fun σ H Q => Q [] H)) := by
  intro pins s σ H Q I h
  refine wpAny_Call_Name_kw (ld_glob I hg hm ?_ hdb)
  exact PySem.W.callWith_K0 I.kIn T.kC (mk_called (x := x) T iC tI F1 hr hb I .nil h.1 h.2)
end
/-! ### the __init__ of an error: self.f = f; self.f = () -/
def spIn (K : PySem.W.Frag) (C : Addr) (f : Str) : Sp := fun vs H Q _ => ∃ a v, vs = [.ref a, v] ∧ H a = some (exo a C none) ∧ ∀ dx, H dx = none → dx ≠ a → Q .non (upd (upd H dx (exd dx [(f, v)])) a (exo a C (some dx)))
def spIn0 (K : PySem.W.Frag) (C : Addr) (f : Str) : Sp := fun vs H Q _ => ∃ a, vs = [.ref a] ∧ H a = some (exo a C none) ∧ ∀ t dx, H t = none → t ≠ a → upd H t (.tup []) dx = none → dx ≠ a → Q .non (upd (upd (upd H t (.tup [])) dx (exd dx [(f, .ref t)])) a (exo a C (some dx)))
/-- what the text says of an own error class -/
structure EC (K : PySem.W.Frag) (mg : Str → Option Value) (x f : Str) (C fI : Addr) : Prop where
  gC : mg x = some (.ref C)
  ox : OexC K C
  iC : PySem.W.findIn K (.ref C) "__init__" = some (some (.ref fI))
  tI : PySem.W.typeIn K (.ref fI) = some (.type "function")
  noF : PySem.W.findIn K (.ref C) f = some none
  ga : PySem.W.findIn K (.ref C) "__getattribute__" = some (some (.builtin "BaseException.__getattribute__"))
  gg : PySem.W.findIn K (.ref C) "__getattr__" = some none
  hd : PySem.W.hasDictIn K C = true
theorem EC.xf {K : PySem.W.Frag} {mg : Str → Option Value} {x f : Str} {C fI : Addr} (E : EC K mg x f C fI) : XfC K C := ⟨E.ga, E.gg, E.ox.exC, E.hd⟩
section
variable {P : Program} {w : World} {K : PySem.W.Frag} {mg : Str → Option Value} {base : Heap}
theorem fn_in1 {qual f : Str} {st : Stmt} {fI C : Addr} {fd : FuncData} {N : List Str} (F : Fun K "__init__" qual st fI fd) (Sc : FnScope N ["self", f] (defScope st)) (hN : N = [("self" : Str), f]) (T : OexC K C) (noF : PySem.W.findIn K (.ref C) f = some none)
    (hb : ∀ (cdv : Value) (A : Around) (outer : List PySem.Env) (s : Shared) (H : Hp) (E : L2.XK), PSs (cxOf (L2.CX P w) P w K mg base N qual (defScope st) fI cdv A outer s H E) (defBody st) (tOst K f (tVar 0) (tVar 1))) :
    FnOk P w K mg base (L2.CX P w) 1 fI fd ["self", f] (spIn K C f) := by
  refine F.okX (k := 0) Sc (fun vs H Q E h => ?_) (fun cdv A outer s H vs Q E hr h => ⟨_, hb cdv A outer s H E, ?_⟩)
  · obtain ⟨a, v, rfl, _⟩ := h; rfl
  · obtain ⟨a, v, rfl, ha, q⟩ := h
    subst hN
    exact ⟨v, rfl, .ref a, rfl, a, C, rfl, T, noF, .inl ⟨ha, fun dx n ne => q dx n ne⟩⟩
theorem fn_in0 {qual f : Str} {st : Stmt} {fI C : Addr} {fd : FuncData} {N : List Str} {te : TE} (F : Fun K "__init__" qual st fI fd) (Sc : FnScope N ["self"] (defScope st)) (hN : N = [("self" : Str)]) (T : OexC K C) (noF : PySem.W.findIn K (.ref C) f = some none)
    (hb : ∀ (cdv : Value) (A : Around) (outer : List PySem.Env) (s : Shared) (H : Hp) (E : L2.XK), PSs (cxOf (L2.CX P w) P w K mg base N qual (defScope st) fI cdv A outer s H E) (defBody st) (tOst K f (tVar 0) te))
    (ht : ∀ σ H Q, (∀ t, H t = none → Q (.ref t) (upd H t (.tup []))) → te σ H Q) :
    FnOk P w K mg base (L2.CX P w) 1 fI fd ["self"] (spIn0 K C f) := by
  refine F.okX (k := 0) Sc (fun vs H Q E h => ?_) (fun cdv A outer s H vs Q E hr h => ⟨_, hb cdv A outer s H E, ?_⟩)
  · obtain ⟨a, rfl, _⟩ := h; rfl
  · obtain ⟨a, rfl, ha, q⟩ := h
    subst hN
    refine ht _ _ _ fun t nt => ?_
    have hta : t ≠ a := fun z => by rw [z, ha] at nt; cases nt
    exact ⟨.ref a, rfl, a, C, rfl, T, noF, .inl ⟨by rw [upd_ne (Ne.symm hta)]; exact ha, fun dx n ne => q t dx nt hta n ne⟩⟩
end
/-! ### raise X(e), raise X() over plain data -/
def raiseS (t : Nat) (fs : Rho → R (List VD)) : Rho → O := fun ρ => (fs ρ).thnO fun vs ρ1 => match datAll vs with
  | some [d] => .err ⟨t, [d]⟩ ρ1
  | _ => .bad
def raise0S (t : Nat) : Rho → O := fun ρ => .err ⟨t, [.tup []]⟩ ρ
section
variable {X : Cx} {T : Tb} {W : WX} {p pos pos' : Pos} {e : Expr} {es : List Expr} {fs : Rho → R (List VD)}
theorem del_made {H1 : Hp} {a d : Addr} {o1 o2 o3 : HO} (ha : H1 a = none) (hd : d ≠ a) : upd (L2.del (upd (upd (upd H1 a o1) d o2) a o3) a) d o2 = upd H1 d o2 := by
  funext b
  by_cases hb : b = d
  · subst hb; rw [upd_same, upd_same]
  · rw [upd_ne hb, upd_ne hb]
    by_cases hba : b = a
    · subst hba; rw [del_same, ha]
    · rw [del_ne hba, upd_ne hba, upd_ne hb, upd_ne hba]
theorem xs_raise1 {t : Nat} {x f : Str} {fI : Addr} {fd : FuncData} (hc : X.calm = true) (tk : Takes X W) (Ec : EC X.K X.mg x f (T t) fI) (F1 : FnOk X.prog X.w X.K X.mg X.base (L2.CX X.prog X.w) 1 fI fd ["self", f] (spIn X.K (T t) f)) (hr : Room 2 X.A) (hb : Binds X.K fd ["self", f] [])
    (hf : flds t = [f]) (ha : XA X T W (e :: es) fs) (hg : L2.Gl X x := by rfl) (hdb : (x == ("__debug__" : Str)) = false := by decide) (he : starEach (e :: es) X.env = (false, eval e X.env) :: starEach es X.env := by rfl) (hpl : (backTo pos (starEach es X.env)).any (·.1) = false := by rfl) :
    XS X T W (.Raise (some (.Call (.Name x p) (e :: es) [] pos)) none pos') (raiseS t fs) := (ps_raise hc tk (pmk_x1 Ec.ox Ec.iC Ec.tI F1 hr hb Ec.gC ha hg hdb he hpl)).impQ fun De σ H q => by
  obtain ⟨β, G, S, ρ, o, p⟩ := q
  refine ⟨β, G, S, ρ, o, PostS.thn (Rl := RpVs X.K T σ) p fun S1 H1 ρ1 vs us e1 o1 h1 p1 => ?_⟩
  split at p1
  case h_2 => exact p1.elim
  case h_1 d q =>
  have r := datAll_rps q h1
  obtain ⟨u, ur, rfl, hu, hur⟩ := r
  obtain rfl : ur = [] := hur
  refine ⟨by show 1 ≤ 1000; decide, fun a ha => ⟨a, u, rfl, upd_same, fun dx hdx hne => ⟨rfl, dx, [(f, u)], upd_same, by rw [upd_ne hne, upd_same], by rw [upd_ne hne] at hdx; exact hdx, ?_⟩⟩⟩
  have hdx' : H1 dx = none := by rw [upd_ne hne] at hdx; exact hdx
  have hH : upd (L2.del (upd (upd (upd H1 a (exo a (T t) none)) dx (exd dx [(f, u)])) a (exo a (T t) (some dx))) a) dx (.xd [(f, u)]) = upd H1 dx (.xd [(f, u)]) := by
    funext b
    by_cases hb : b = dx
    · subst hb; rw [upd_same, upd_same]
    · rw [upd_ne hb, upd_ne hb]
      by_cases hba : b = a
      · subst hba; rw [del_same, ha]
      · rw [del_ne hba, upd_ne hba, upd_ne hb, upd_ne hba]
  rw [hH]
  have e2 := Ext.new (S := S1) (H := H1) (p := dx) (o := .xd [(f, u)]) o1.sh hdx'
  exact p1 _ σ _ _ _ e2.s (o1.ext e2) ⟨rfl, dx, [u], rfl, by rw [upd_same, hf]; rfl, u, [], rfl, Rp.mono e2.s _ _ hu, rfl⟩
theorem xs_raise0 {t : Nat} {x f : Str} {fI : Addr} {fd : FuncData} (hc : X.calm = true) (tk : Takes X W) (Ec : EC X.K X.mg x f (T t) fI) (F1 : FnOk X.prog X.w X.K X.mg X.base (L2.CX X.prog X.w) 1 fI fd ["self"] (spIn0 X.K (T t) f)) (hr : Room 2 X.A) (hb : Binds X.K fd ["self"] [])
    (hf : flds t = [f]) (hg : L2.Gl X x := by rfl) (hdb : (x == ("__debug__" : Str)) = false := by decide) :
    XS X T W (.Raise (some (.Call (.Name x p) [] [] pos)) none pos') (raise0S t) := (ps_raise hc tk (pmk_x0 Ec.ox Ec.iC Ec.tI F1 hr hb Ec.gC hg hdb)).impQ fun De σ H q => by
  obtain ⟨β, G, S, ρ, o, p⟩ := q
  refine ⟨by decide, fun a ha => ⟨a, rfl, upd_same, fun tt dx ht hta hdx hne => ⟨rfl, dx, [(f, .ref tt)], upd_same, by rw [upd_ne hne, upd_same], ?_, ?_⟩⟩⟩
  · by_cases hd : dx = tt
    · subst hd; rw [upd_same] at hdx; cases hdx
    · rw [upd_ne hd, upd_ne hne] at hdx; exact hdx
  have hdt : dx ≠ tt := fun z => by subst z; rw [upd_same] at hdx; cases hdx
  have hdx' : H dx = none := by rw [upd_ne hdt, upd_ne hne] at hdx; exact hdx
  have ht' : H tt = none := by rw [upd_ne hta] at ht; exact ht
  have hH : upd (L2.del (upd (upd (upd (upd H a (exo a (T t) none)) tt (.tup [])) dx (exd dx [(f, .ref tt)])) a (exo a (T t) (some dx))) a) dx (.xd [(f, .ref tt)]) = upd (upd H tt (.tup [])) dx (.xd [(f, .ref tt)]) := by
    funext b
    by_cases hb : b = dx
    · subst hb; rw [upd_same, upd_same]
    · rw [upd_ne hb, upd_ne hb]
      by_cases hba : b = a
      · subst hba; rw [del_same, upd_ne (Ne.symm hta), ha]
      · rw [del_ne hba, upd_ne hba, upd_ne hb]
        by_cases hbt : b = tt
        · subst hbt; rw [upd_same, upd_same]
        · rw [upd_ne hbt, upd_ne hbt, upd_ne hba]
  rw [hH]
  have e1 := Ext.new (S := S) (H := H) (p := tt) (o := .tup []) o.sh ht'
  have e2 := Ext.new (S := upd S tt (.tup [])) (H := upd H tt (.tup [])) (p := dx) (o := .xd [(f, .ref tt)]) (o.ext e1).sh (by rw [upd_ne hdt]; exact hdx')
  have e3 := e1.trans e2
  exact p _ σ _ _ _ e3.s (o.ext e3) ⟨rfl, dx, [.ref tt], rfl, by rw [upd_same, hf]; rfl, .ref tt, [], rfl, ⟨tt, [], rfl, SqT.of (by rw [upd_ne (Ne.symm hdt), upd_same]), rfl⟩, rfl⟩
/-- e.f, e an error that was caught -/
def tXk (K : PySem.W.Frag) (f : Str) (te : TE) : TE := fun σ H Q => te σ H fun x H1 => ∃ (a C dd : Addr) (fs : List (Str × V)) (v : V), x = .ref a ∧ XfC K C ∧ PySem.W.findIn K (.ref C) f = some none ∧ H1 a = some (ExK C dd a) ∧ H1 dd = some (.xd fs) ∧ fs.lookup f = some v ∧ Q v H1
theorem pe_xk {te : TE} {n : Str} (he : PE X e te) (hb : attributeBase e n X.env (eval e X.env) = eval e X.env := by rfl) : PE X (.Attribute e n pos) (tXk X.K n te) := by
  refine ⟨fun pins s σ H Q I h => ?_⟩
  refine attr_of hb (thn (he.run pins s σ H _ I h) fun u s1 hh => ?_)
  obtain ⟨x, H1, I1, rx, a, C, dd, fs, v, ex, T, hno, ea, ed, l, q⟩ := hh
  subst ex
  obtain rfl : u = Value.ref a := rx
  obtain ⟨⟨oe, vs, ha, hz, hd⟩, _⟩ : ObjOk X.prog X.w H1 s1.heap a (ExK C dd a) := I1.hok a _ ea
  have hx : ObjOk X.prog X.w H1 s1.heap dd (.xd fs) := I1.hok dd _ ed
  obtain ⟨mA, hns, hr⟩ := hx
  obtain ⟨od, ho, hl⟩ := lookIn_ns hns
  obtain ⟨u, hu, ru⟩ := RelO.some_of (v := v) (o := mA n) (by rw [← l]; exact hr n)
  have J : PySem.W.InstAt s1.heap a oe C (some od) := ⟨ha, hz.1, by unfold PySem.W.notCls; rw [hd] <;> rfl, by rw [hz.2]; exact ho⟩
  exact HandSPX.exc_get I1.kIn J T.ga T.gg T.exC (PySem.W.findObj_own T.hdC hno rfl (by rw [hl, hu])) (handed_of ru) ⟨v, H1, I1.tok _, ru, q⟩
/-- the field f of an error of one of the classes ts -/
def fldD (ts : List Nat) (f : Str) : D → Option D
  | .obj t [d] => if isEx t && ts.contains t && decide (flds t = [f]) then some d else none
  | _ => none
theorem xe_efld {ts : List Nat} {n : Str} {fa : Rho → R VD} (hT : ∀ t ∈ ts, XfC X.K (T t) ∧ PySem.W.findIn X.K (.ref (T t)) n = some none) (he : XE X T W e fa) (hb : attributeBase e n X.env (eval e X.env) = eval e X.env := by rfl) : XE X T W (.Attribute e n pos) (op1E (fldD ts n) fa) :=
  (pe_xk he hb).impQ fun σ H Q h => by
    refine tUn_of (r := fun x H1 Q => ∃ (a C dd : Addr) (fs : List (Str × V)) (v : V), x = .ref a ∧ XfC X.K C ∧ PySem.W.findIn X.K (.ref C) n = some none ∧ H1 a = some (ExK C dd a) ∧ H1 dd = some (.xd fs) ∧ fs.lookup n = some v ∧ Q v H1) ?_ h
    intro S H x dx d Q e hx hd g
    unfold fldD at hd
    split at hd
    · rename_i t d0
      split at hd
      · rename_i hh
        cases hd
        rw [Bool.and_eq_true, Bool.and_eq_true] at hh
        obtain ⟨⟨h1, h2⟩, h3⟩ := hh
        obtain ⟨t1, t2⟩ := hT t (by simpa using h2)
        rcases hx with ⟨a, vs, rfl, ob, rps⟩ | ⟨_, _, _, _, z, _⟩
        · rcases ob with ⟨_, dd, s1, s2⟩ | ⟨z, _⟩
          · obtain ⟨v, vr, rfl, rv, hvr⟩ := rps
            obtain rfl : vr = [] := hvr
            rw [of_decide_eq_true h3] at s2
            exact ⟨a, T t, dd, [(n, v)], v, rfl, t1, t2, e _ _ s1, e _ _ s2, by simp [List.lookup], g.now e rv⟩
          · rw [z] at h1; cases h1
        · cases z
      · cases hd
    · cases hd
end
end Lq
namespace Lq
open PySem PySem.Spec PyProof.Rows L2
/-! ### tables of classes -/
def tbT (l : List (Nat × Addr)) : Tb := fun t => (l.lookup t).getD 0
def clsAt : Stmt → Nat → Stmt
  | .ClassDef _ _ _ body _ _ _ _ _ _ _, j => body.getD j (.Pass ⟨0, 0, 0, 0⟩)
  | s, _ => s
theorem exs_nil {K : PySem.W.Frag} {T : Tb} {c : Value} : ∀ t b, List.lookup t ([] : List (Nat × Bool)) = some b → PySem.W.exmOne K (.ref (T t)) c = some b := fun t b h => by cases h
theorem exs_cons {K : PySem.W.Frag} {T : Tb} {c : Value} {t0 : Nat} {b0 : Bool} {r : List (Nat × Bool)} (h : PySem.W.exmOne K (.ref (T t0)) c = some b0) (hr : ∀ t b, List.lookup t r = some b → PySem.W.exmOne K (.ref (T t)) c = some b) :
    ∀ t b, List.lookup t ((t0, b0) :: r) = some b → PySem.W.exmOne K (.ref (T t)) c = some b := fun t b q => by
  rw [List.lookup_cons] at q
  by_cases e : t = t0
  · subst e
    simp at q
    rw [← q]; exact h
  · have : (t == t0) = false := by simpa using e
    rw [this] at q
    exact hr t b q
theorem exf_nil {K : PySem.W.Frag} {T : Tb} {n : Str} : ∀ t ∈ ([] : List Nat), XfC K (T t) ∧ PySem.W.findIn K (.ref (T t)) n = some none := fun t h => by cases h
theorem exf_cons {K : PySem.W.Frag} {T : Tb} {n : Str} {t0 : Nat} {r : List Nat} (h1 : XfC K (T t0)) (h2 : PySem.W.findIn K (.ref (T t0)) n = some none) (hr : ∀ t ∈ r, XfC K (T t) ∧ PySem.W.findIn K (.ref (T t)) n = some none) :
    ∀ t ∈ t0 :: r, XfC K (T t) ∧ PySem.W.findIn K (.ref (T t)) n = some none := fun t h => by
  rcases List.mem_cons.1 h with rfl | h
  · exact ⟨h1, h2⟩
  · exact hr t h
/-! ### a new list by either way of a test; s.split(t) as a new list -/
section
variable {X : Cx} {T : Tb} {W : WX} {a b c : Expr} {pos : Pos} {ft : Rho → R Bool}
def ifF (ft : Rho → R Bool) (f g : Rho → R (List D)) : Rho → R (List D) := fun ρ => (ft ρ).bind fun k ρ1 => if k then f ρ1 else g ρ1
theorem xf_if {f g : Rho → R (List D)} (hc : XT X T W c ft) (ha : XF X T W a f) (hb : XF X T W b g) : XF X T W (.IfExp c a b pos) (ifF ft f g) := (pe_ifExp hc ha hb).impQ fun σ H Q h => by
  obtain ⟨β, G, S, ρ, o, p⟩ := h
  refine ⟨β, G, S, ρ, o, PostF.thn (Rl := fun _ (b c : Bool) => b = c) p fun S1 H1 ρ1 v u e1 o1 h1 p1 => ?_⟩
  subst h1
  cases v with
  | true => exact iteT ⟨β, G, S1, ρ1, o1, p1⟩
  | false => exact iteF ⟨β, G, S1, ρ1, o1, p1⟩
end
end Lq
namespace Lq
open PySem PySem.Spec PyProof.Rows L2
/-! ### sets of keys (ints, texts), with what a walk over them wants -/
def kOf (e : Int × Value) : Key := match e.2 with
  | .int k _ => .inl k
  | .str x _ => .inr x
  | _ => .inl 0
def GdK (w : World) (e : Int × Value) : Prop := keyIs (kOf e) e.2 = true ∧ e.1 = keyH w (kOf e)
theorem kOf_of {k : Key} {i : Int} {v : Value} (h : keyIs k v = true) : kOf (i, v) = k := by
  rcases keyIs_shape h with ⟨i, t, rfl, rfl⟩ | ⟨x, t, rfl, rfl⟩ <;> rfl
theorem gd_is {w : World} {e : Int × Value} (g : GdK w e) (k : Key) : keyIs k e.2 = true ↔ kOf e = k := ⟨fun h => kOf_of (i := e.1) h, fun h => h ▸ g.1⟩
theorem key_scans {k : Key} {v : Value} (h : keyIs k v = true) : v.scannable = true := by
  rcases keyIs_shape h with ⟨i, t, rfl, rfl⟩ | ⟨x, t, rfl, rfl⟩ <;> rfl
theorem gd_elems {P : Program} {w : World} {l : List (Int × Value)} (g : ∀ e ∈ l, GdK w e) : ElemsOf (mixKind P w) l := fun e he => ⟨⟨kOf e, (g e he).1, (g e he).2⟩, key_scans (g e he).1⟩
theorem nodup_le {α : Type} [DecidableEq α] : ∀ {l m : List α}, l.Nodup → (∀ x ∈ l, x ∈ m) → l.length ≤ m.length
  | [], _, _, _ => Nat.zero_le _
  | x :: l, m, d, h => by
    obtain ⟨d1, d2⟩ := List.nodup_cons.1 d
    have hx := h x List.mem_cons_self
    have := nodup_le (m := m.erase x) d2 fun y hy => (List.mem_erase_of_ne (fun (e : y = x) => d1 (by rw [← e]; exact hy))).2 (h y (List.mem_cons_of_mem _ hy))
    rw [List.length_erase_of_mem hx] at this
    have := List.length_pos_of_mem hx
    rw [List.length_cons]; omega
def SetG (w : World) (h : Heap) (a : Addr) (ks : List Key) : Prop := ∃ (o : Obj) (es : Array (Int × Value)) (ep : Nat) (t : SetTable), h.get? a = some o ∧ o.ExactSet ∧ o.data = .set es ep t ∧
  ((∀ e ∈ es.toList, GdK w e) ∧ (es.toList.map kOf).Nodup ∧ ∀ k, k ∈ ks ↔ k ∈ es.toList.map kOf) ∧ es.size < scanBound ∧ t.fits es.size = true ∧ Ris t.place.toList ∧ (w.params.followText "set-order" = true ∨ t.led = true)
theorem SetG.at {w : World} {h h' : Heap} {a : Addr} {ks : List Key} (R : SetG w h a ks) (k : ∀ o, h.get? a = some o → h'.get? a = some o) : SetG w h' a ks := by
  obtain ⟨o, es, ep, t, ho, rest⟩ := R
  exact ⟨o, es, ep, t, k o ho, rest⟩
theorem SetG.same {w : World} {h : Heap} {a : Addr} {ks ls : List Key} (R : SetG w h a ks) (e : ∀ k, k ∈ ls ↔ k ∈ ks) : SetG w h a ls := by
  obtain ⟨o, es, ep, t, h1, h2, h3, ⟨h4, h5, h6⟩, rest⟩ := R
  exact ⟨o, es, ep, t, h1, h2, h3, ⟨h4, h5, fun k => (e k).trans (h6 k)⟩, rest⟩
section
variable {P : Program} {w : World} {A : Around} {E : Value → Shared → Prop} {s : Shared} {a : Addr} {ks : List Key}
theorem setG_tail {g : Bool → Sem Unit} (hg : ∀ (b : Bool) (s₁ : Shared) (Q' : Unit → Shared → Prop), Q' () s₁ → wpAny (model P w) A (g b) Q' E s₁)
    {o : Obj} {es e1 : Array (Int × Value)} {ep : Nat} {t t2 : SetTable} (ho : s.heap.get? a = some o) (hex : o.ExactSet) (hd : o.data = .set es ep t) (g1 : (∀ e ∈ e1.toList, GdK w e) ∧ (e1.toList.map kOf).Nodup ∧ ∀ k, k ∈ ks ↔ k ∈ e1.toList.map kOf)
    (hb1 : e1.size < scanBound) (hf2 : t2.fits e1.size = true) (hr : Ris t2.place.toList) (hl : w.params.followText "set-order" = true ∨ t2.led = true) {dm : Bool} {R : Option Bool → Shared → Prop}
    (hR : ∀ h', Heap.SameBut a s.heap h' → SetG w h' a ks → R (some true) { s with heap := h' }) :
    wpAny (model P w) A (do
        storeSet a e1 t2
        if (!dm && t2.tooFull) = true then do
            g (relayAll t2 e1 (SetTable.grown e1.size)).2.2
            storeSet a (relayAll t2 e1 (SetTable.grown e1.size)).1 (relayAll t2 e1 (SetTable.grown e1.size)).2.1
            pure (some true)
          else pure (some true)) R E s := by
  have here := store_at (es' := e1) (t' := t2) ho hd
  have but := Heap.SameBut.update s.heap a (Obj.putSet e1 t2)
  refine wpAny_bind (wpAny_storeSet_of ho hd ?_ (fits_of_scanBound hb1))
  split
  case isFalse => exact wpAny_pure (hR _ but ⟨_, e1, _, t2, here, hex, rfl, g1, hb1, hf2, hr, hl⟩)
  case isTrue =>
    obtain ⟨pm, f3, r3, l3⟩ := And.intro (relayAll_perm t2 e1 (SetTable.grown e1.size)) (And.intro (relayAll_fits t2 e1 (SetTable.grown e1.size)) (And.intro (relayAll_ris t2 e1 (SetTable.grown e1.size)) (relayAll_led t2 e1 (SetTable.grown e1.size))))
    generalize relayAll t2 e1 (SetTable.grown e1.size) = Z at pm f3 r3 l3 ⊢
    obtain ⟨e2, t3, gv⟩ := Z
    dsimp only at pm f3 r3 l3 ⊢
    have z2 : e2.size = e1.size := by rw [← Array.length_toList, pm.length_eq, Array.length_toList]
    have b2 : e2.size < scanBound := z2 ▸ hb1
    refine wpAny_bind (hg _ _ _ (wpAny_bind (wpAny_storeSet_of here rfl ?_ (fits_of_scanBound b2))))
    refine wpAny_pure (hR _ (but.trans (Heap.SameBut.update _ a _)) ⟨_, e2, _, t3, store_at (es' := e2) (t' := t3) here rfl, hex, rfl, ⟨fun e he => g1.1 e (pm.mem_iff.mp he), (pm.map kOf).nodup_iff.mpr g1.2.1, fun k => (g1.2.2 k).trans (pm.map kOf).mem_iff.symm⟩, b2, f3, r3, ?_⟩)
    exact hl.imp id fun z => l3.trans z
theorem setG_add {k : Key} {v : Value} {Q : Bool → Shared → Prop} (hv : keyIs k v = true) (R : SetG w s.heap a ks) (room : ks.length + 1 < scanBound)
    (hQ : ∀ b h', Heap.SameBut a s.heap h' → SetG w h' a (k :: ks) → Q b { s with heap := h' }) : wpAny (model P w) A (setAddHashed a v ((mixKind P w).hash k)) Q E s := by
  obtain ⟨o, es, ep, t, ho, hex, hd, ⟨g, nd, hm⟩, hb, hf, hr, hl⟩ := R
  have hkey : (mixKind P w).is k v = true := hv
  have hel : ElemsOf (mixKind P w) es.toList := gd_elems g
  have hlen : es.size ≤ ks.length := by
    rw [← Array.length_toList, ← List.length_map (f := kOf)]
    exact nodup_le nd fun x hx => (hm x).2 hx
  unfold setAddHashed setAddHashedIn
  refine wpAny_holding (wpAny_bind (wpAny_setState_of ho hd hf ?_))
  dsimp only
  rw [byScan_of (key_scans hv) hb hel, if_pos rfl]
  unfold setAddByScan
  refine wpAny_bind (wpAny_bind (wpAny_rule (wpAny_bind (wpAny_setScan_of hkey ho hd hf hel ?_))))
  cases hfi : List.findIdx? (fun e => (mixKind P w).is k e.2) es.toList with
  | some j =>
    obtain ⟨hj, pj, _⟩ := List.findIdx?_eq_some_iff_getElem.mp hfi
    have hk : k ∈ es.toList.map kOf := List.mem_map.2 ⟨_, List.getElem_mem hj, (gd_is (g _ (List.getElem_mem hj)) k).1 pj⟩
    refine wpAny_pure (wpAny_pure (hQ _ s.heap (Heap.SameBut.refl a s.heap) ⟨o, es, ep, t, ho, hex, hd, ⟨g, nd, fun i => ?_⟩, hb, hf, hr, hl⟩))
    rw [List.mem_cons, hm i]
    exact ⟨fun z => z.elim (fun e => e ▸ hk) id, .inr⟩
  | none =>
    have hnk : k ∉ es.toList.map kOf := fun z => by
      obtain ⟨e, he, q⟩ := List.mem_map.1 z
      have c := List.findIdx?_eq_none_iff.mp hfi e he
      rw [show (mixKind P w).is k e.2 = true from (gd_is (g e he) k).2 q] at c
      cases c
    have gw : ∀ (b : Bool) {s₁ : Shared} {Q' : Unit → Shared → Prop}, Q' () s₁ → wpAny (model P w) A (match b with | true => rule "set.scan.the-table-gave-way" | false => pure ()) Q' E s₁ := fun b s₁ Q' q => by
      cases b
      · exact wpAny_pure q
      · exact wpAny_rule q
    obtain ⟨pm, f1, r1, l1⟩ := And.intro (layNew_perm t es ((mixKind P w).hash k) v) (And.intro (layNew_fits t es ((mixKind P w).hash k) v) (And.intro (layNew_ris t es ((mixKind P w).hash k) v hr) (layNew_led t es ((mixKind P w).hash k) v)))
    dsimp only
    generalize layNew t es ((mixKind P w).hash k) v = Z at pm f1 r1 l1 ⊢
    obtain ⟨e1, t1, dm, gv⟩ := Z
    dsimp only at pm f1 r1 l1 ⊢
    have pc : e1.toList.Perm (((mixKind P w).hash k, v) :: es.toList) := by
      rw [Array.toList_push] at pm
      exact pm.trans (List.perm_append_singleton _ _)
    have ek : kOf ((mixKind P w).hash k, v) = k := kOf_of hv
    have pk : (e1.toList.map kOf).Perm (k :: es.toList.map kOf) := by
      have := pc.map kOf
      rwa [List.map_cons, ek] at this
    have g1 : (∀ e ∈ e1.toList, GdK w e) ∧ (e1.toList.map kOf).Nodup ∧ ∀ i, i ∈ k :: ks ↔ i ∈ e1.toList.map kOf := by
      refine ⟨fun e he => ?_, pk.nodup_iff.mpr (List.nodup_cons.mpr ⟨hnk, nd⟩), fun i => ?_⟩
      · rcases List.mem_cons.mp (pc.mem_iff.mp he) with z | z
        · subst z; exact ⟨by rw [ek]; exact hv, by rw [ek]; rfl⟩
        · exact g e z
      · rw [pk.mem_iff, List.mem_cons, List.mem_cons, hm i]
    have z1 : e1.size = es.size + 1 := by rw [← Array.length_toList, pc.length_eq, List.length_cons, Array.length_toList]
    have b1 : e1.size < scanBound := by omega
    have ld : w.params.followText "set-order" = true ∨ t1.led = true := hl.imp id fun z => l1.trans z
    have noise : ∀ (b : Bool) (s₁ : Shared) (Q' : Unit → Shared → Prop), Q' () s₁ → wpAny (model P w) A (match b with | true => rule "set.scan.the-table-gave-way" | false => pure ()) Q' E s₁ := fun b s₁ Q' q => gw b q
    refine wpAny_bind (gw _ ?_)
    split
    · refine wpAny_bind ?_
      rw [hashByValue_scannable 8 (key_scans hv)]
      refine wpAny_pure (setG_tail (ks := k :: ks) ?_ ho hex hd g1 b1 ?_ ?_ ?_ fun h' sb r => ?_)
      · intro b s₁ Q' q; cases b <;> first | exact wpAny_pure q | exact wpAny_rule q
      · first | (split <;> first | exact f1 | exact SetTable.fits_plain_off f1) | exact f1
      · first | (split <;> exact r1) | exact r1
      · first | (split <;> exact ld) | exact ld
      · dsimp only; exact wpAny_pure (hQ _ h' sb r)
    · refine wpAny_bind (wpAny_pure ?_)
      rw [if_pos rfl]
      refine setG_tail (ks := k :: ks) ?_ ho hex hd g1 b1 f1 r1 ld fun h' sb r => ?_
      · intro b s₁ Q' q; cases b <;> first | exact wpAny_pure q | exact wpAny_rule q
      · dsimp only; exact wpAny_pure (hQ _ h' sb r)
/-- all of a walk's keys are put in -/
theorem setG_update {I : Addr} {fp wr : List Addr} {G : Array GenState → Array GenState → Prop} {n : Nat} {Pv : Nat → Value → Prop} {St : Nat → Shared → Prop} {R : Result → Shared → Prop}
    (W : WalksS P w A.in1 I fp wr G n Pv St) (S : Addr) (out : S ∉ fp) (ks : List Key) (hn : n = ks.length) (hb : ks.length + 1 < scanBound) (val : ∀ i v, Pv i v → ∃ k, ks[i]? = some k ∧ keyIs k v = true) :
    ∀ (m i : Nat) (s : Shared), n - i = m → i ≤ n → St i s → SetG w s.heap S (ks.take i) → (∀ s', Moved (S :: wr) G s s' → SetG w s'.heap S ks → R (.ok (.ret .none)) s') →
      codeAny (model P w) A (.builtin "set.update.loop" ⟨[.ref S, .ref I], []⟩) R s := by
  have apart : S ∉ wr := fun z => out (W.sub _ z)
  have more : ∀ b ∈ wr, b ∈ S :: wr := fun b z => List.mem_cons_of_mem _ z
  intro m
  induction m with
  | zero =>
    intro i s em hi st hS go
    obtain rfl : i = n := by omega
    rw [List.take_of_length_le (Nat.le_of_eq hn.symm)] at hS
    refine codeAny_builtin F.entry_set_update_loop ?_
    rw [Around.under_plainId F.plain_set_update_loop _]
    show wpAny _ A.in1 (pyNext (.ref I) >>= _) _ _ s
    refine wpAny_bind (W.done s _ _ st fun s' mv => ?_)
    show wpAny _ A.in1 (ret Value.none) _ _ s'
    exact wpAny_pure (go s' (mv.mono more) (hS.at fun o e => mv.heap S o apart e))
  | succ m ih =>
    intro i s em hi st hS go
    have lt : i < n := by omega
    refine codeAny_builtin F.entry_set_update_loop ?_
    rw [Around.under_plainId F.plain_set_update_loop _]
    show wpAny _ A.in1 (pyNext (.ref I) >>= _) _ _ s
    refine wpAny_bind (W.item i s _ _ lt st fun v s' hP st' mv => ?_)
    obtain ⟨k, hk, kv⟩ := val i v hP
    show wpAny _ A.in1 (holding [v] (setAdd S v) >>= _) _ _ s'
    refine wpAny_bind (wpAny_holding ?_)
    unfold setAdd
    refine wpAny_holding (wpAny_bind ((mixKind P w).pyHash (k := k) kv ?_))
    refine setG_add (s := { s' with toks := s'.toks + 1 }) kv (hS.at fun o e => mv.heap S o apart e) (by rw [List.length_take]; omega) fun b h' sb hS2 => ?_
    have hS3 : SetG w h' S (ks.take (i + 1)) := hS2.same fun j => by
      rw [List.take_add_one, hk]
      simp [List.mem_append, or_comm]
    refine wpAny_pure ⟨plainId_quiet F.plain_set_update_loop _, ih (i + 1) _ (by omega) lt (W.frame _ s' _ _ st' (Nat.le_succ _) fun b z o e => ?_) hS3 fun s'' mv2 hS4 => ?_⟩
    · rw [sb.2 b (fun y : b = S => out (y ▸ z))]; exact e
    · refine go s'' (Moved.trans W.gtrans ((mv.mono more).then_heap (Nat.le_succ _) fun b o z e => ?_) mv2) hS4
      rw [sb.2 b (fun y : b = S => z (y ▸ List.mem_cons_self))]; exact e
abbrev newSet (w : World) : Obj := { cls := .type "set", dict := none, data := .set #[] 0 (.fresh 0 0 (!w.params.followText "set-order")) }
theorem setG_new {h : Heap} {a : Addr} (ho : h.get? a = some (newSet w)) : SetG w h a [] :=
  ⟨_, #[], 0, _, ho, ⟨rfl, rfl, rfl⟩, rfl, ⟨fun e he => by simp at he, by simp, fun k => by simp⟩, by decide, by rfl, List.Pairwise.nil, by
    show _ ∨ (!w.params.followText "set-order") = true
    cases w.params.followText "set-order"
    · exact .inr rfl
    · exact .inl rfl⟩
/-- set(x), x a list or a tuple of keys -/
theorem call_setG {l : Addr} {T : String} {ol : Obj} {its : List Value} {nl : Nat} {ks : List Key} {Q : Value → Shared → Prop} (hh : A.handled = none) (hT : T = "list" ∨ T = "tuple") (hol : s.heap.get? l = some ol) (hcl : ol.cls = .type T) (hdl : ol.data = .seq its.toArray nl)
    (hz : its.length = ks.length) (val : ∀ (i : Nat) (v : Value), its[i]? = some v → ∃ k, ks[i]? = some k ∧ keyIs k v = true) (hb : ks.length + 1 < scanBound)
    (h : ∀ (h' : Heap) (tk : Nat), SetG w h' s.heap.objs.size ks → (∀ b o, s.heap.get? b = some o → h'.get? b = some o) → Q (.ref s.heap.objs.size) { s with heap := h', toks := tk }) :
    wpAny (model P w) A (call (.type "set") [.ref l]) Q E s := by
  obtain ⟨c, tl, hmro⟩ := F.called_set.mro
  obtain ⟨hmade, hsub, h1, h2, hct⟩ := And.intro F.called_set.made (And.intro F.called_set.sub (And.intro F.called_set.notType (And.intro F.called_set.canCreate (F.typeCall_set_1 (.ref l)))))
  refine wpAny_call (codeAny_of_tree ?_)
  show wpAny _ _ (callAny (.type "set") _) _ _ _
  refine wpAny_pure ⟨Code.quiet_builtin _ (by decide +kernel), codeAny_builtin F.entry_type_call ?_⟩
  rw [Around.under_plain (weight_type_call_type "set" [.ref l] []) rfl]
  repeat (any_goals (first | assumption | wp_step))
  refine codeAny_mono (code_set_led1 (.ref l) (E := E) (Q₁ := fun obj s₁ => obj = .ref s.heap.objs.size ∧ s₁ = { s with heap := s.heap.push (newSet w) }) ⟨rfl, rfl⟩) fun r s₁ hr => ?_
  cases r with
  | error e => exact hr
  | ok fl =>
    cases fl with
    | ret obj =>
      obtain ⟨rfl, rfl⟩ := hr
      have hS : (s.heap.push (newSet w)).get? s.heap.objs.size = some (newSet w) := Heap.get?_push_size _ rfl
      have hTS : Shared.TypeIs { s with heap := s.heap.push (newSet w) } (.ref s.heap.objs.size) "set" := ⟨_, hS, rfl⟩
      obtain ⟨hli, hbi⟩ := And.intro F.called_set.init.lookup (F.called_set.init.bind (.ref s.heap.objs.size))
      repeat (any_goals (first | assumption | wp_step))
      refine codeAny_mono (codeAny_call_builtin (R := wants (fun r s₂ => r = .none ∧ ∃ h' tk, s₂ = { s with heap := h', toks := tk } ∧ SetG w h' s.heap.objs.size ks ∧ (∀ b o, s.heap.get? b = some o → h'.get? b = some o)) E) F.called_set.init.plain F.entry_set_init (check_set_init_1 hTS ?_)) fun r₂ s₂ hr₂ => ?_
      · obtain ⟨ocls, odict, odata, oslots⟩ := ol
        simp only at hcl hdl
        subst hcl; subst hdl
        have hlS : l < s.heap.objs.size := Heap.lt_size hol
        have hh3 : A.in1.in1.in1.handled = none := by simp [hh]
        have hneI : l ≠ (s.heap.push (newSet w)).objs.size := by rw [Heap.size_push]; exact Nat.ne_of_lt (Nat.lt_succ_of_lt hlS)
        have hSf : s.heap.objs.size ∉ [(s.heap.push (newSet w)).objs.size, l] := fun z => by
          rw [Heap.size_push] at z
          rcases List.mem_cons.1 z with z | z
          · exact absurd z (Nat.ne_of_lt (Nat.lt_succ_self _))
          · exact absurd (List.mem_singleton.1 z) (Nat.ne_of_gt hlS)
        have val' : ∀ (i : Nat) (v : Value), its.toArray[i]? = some v → ∃ k, ks[i]? = some k ∧ keyIs k v = true := fun i v hv => val i v (by rw [← Array.getElem?_toList] at hv; exact hv)
        have hsz : its.toArray.size = ks.length := by rw [List.size_toArray]; exact hz
        obtain ⟨hsls, hslf, hne⟩ : isSubtype (.type T) (.type "set") = pure false ∧ isSubtype (.type T) (.type "frozenset") = pure false ∧ (Value.type T == Value.type "dict") = false := by
          rcases hT with rfl | rfl
          · exact ⟨F.sub_list_set, F.sub_list_frozenset, by decide⟩
          · exact ⟨F.sub_tuple_set, F.sub_tuple_frozenset, by decide⟩
        have hol' : (s.heap.push (newSet w)).get? l = some { cls := .type T, dict := odict, data := .seq its.toArray nl, slots := oslots } := Heap.get?_push_of_some _ hol
        unfold Builtin.«set.__init__» noKeywords Builtin.Frozenset.updateFrom
        generalize hPI : pyIter = PI
        wp_walk
        subst hPI
        rcases hT with rfl | rfl
        · have hl1 : (s.heap.push (newSet w)).IsList l its.toArray := ⟨_, hol', rfl, nl, rfl⟩
          refine wpAny_pyIter_list hl1 (wpAny_bind (wpAny_runValue ?_))
          refine setG_update ((Walks.list hh3 _ l hneI its.toArray).toS) s.heap.objs.size hSf ks hsz hb val' (its.toArray.size - 0) 0 _ (by omega) (Nat.zero_le _) ⟨⟨_, Heap.get?_push_size _ rfl, rfl, rfl⟩, hl1.push _⟩ (setG_new (Heap.get?_push_of_some _ hS)) fun s' mv hS' => ?_
          obtain ⟨h', g2, d', tk', os'⟩ := s'
          obtain ⟨eg, ed, eo⟩ := And.intro (show g2 = s.gens from mv.gens) (And.intro (show d' = s.drawn from mv.drawn) (show os' = s.os from mv.os))
          subst eg; subst ed; subst eo
          show wpAny _ _ _ _ _ _
          refine wpAny_pure ?_
          show wpAny _ _ (ret Value.none) _ _ _
          refine wpAny_pure ⟨rfl, h', tk', rfl, hS', fun b o e => mv.heap b o (fun z => ?_) (Heap.get?_push_of_some _ (Heap.get?_push_of_some _ e))⟩
          have lb := Heap.lt_size e
          rcases List.mem_cons.1 z with z | z
          · exact absurd z (Nat.ne_of_lt lb)
          · rw [Heap.size_push] at z; exact absurd (List.mem_singleton.1 z) (Nat.ne_of_lt (Nat.lt_succ_of_lt lb))
        · have hl1 : (s.heap.push (newSet w)).IsTuple l its.toArray := ⟨_, hol', rfl, nl, rfl⟩
          refine wpAny_pyIter_tuple hl1 (wpAny_bind (wpAny_runValue ?_))
          refine setG_update ((Walks.tuple hh3 _ l hneI its.toArray).toS) s.heap.objs.size hSf ks hsz hb val' (its.toArray.size - 0) 0 _ (by omega) (Nat.zero_le _) ⟨⟨_, Heap.get?_push_size _ rfl, rfl, rfl⟩, hl1.push _⟩ (setG_new (Heap.get?_push_of_some _ hS)) fun s' mv hS' => ?_
          obtain ⟨h', g2, d', tk', os'⟩ := s'
          obtain ⟨eg, ed, eo⟩ := And.intro (show g2 = s.gens from mv.gens) (And.intro (show d' = s.drawn from mv.drawn) (show os' = s.os from mv.os))
          subst eg; subst ed; subst eo
          show wpAny _ _ _ _ _ _
          refine wpAny_pure ?_
          show wpAny _ _ (ret Value.none) _ _ _
          refine wpAny_pure ⟨rfl, h', tk', rfl, hS', fun b o e => mv.heap b o (fun z => ?_) (Heap.get?_push_of_some _ (Heap.get?_push_of_some _ e))⟩
          have lb := Heap.lt_size e
          rcases List.mem_cons.1 z with z | z
          · exact absurd z (Nat.ne_of_lt lb)
          · rw [Heap.size_push] at z; exact absurd (List.mem_singleton.1 z) (Nat.ne_of_lt (Nat.lt_succ_of_lt lb))
      · cases r₂ with
        | error e => exact hr₂
        | ok fl₂ =>
          cases fl₂ with
          | ret r =>
            obtain ⟨rfl, h', tk, rfl, hS', hk'⟩ := hr₂
            repeat (any_goals (first | assumption | wp_step))
            exact h _ _ hS' hk'
          | _ => exact hr₂.elim
    | _ => exact hr.elim
end
end Lq
namespace Lq
open PySem PySem.Spec PyProof.Rows L2
/-! ### set(x), sorted(set(x)), len(set(x)) -/
/-- each once, as it was met first -/
def uniq {α : Type} [DecidableEq α] : List α → List α
  | [] => []
  | x :: l => x :: (uniq l).filter (fun y => decide (y ≠ x))
theorem uniq_mem {α : Type} [DecidableEq α] {z : α} : ∀ {l : List α}, z ∈ uniq l ↔ z ∈ l
  | [] => Iff.rfl
  | x :: l => by
    rw [uniq, List.mem_cons, List.mem_cons, List.mem_filter, uniq_mem]
    by_cases h : z = x
    · simp [h]
    · simp [h]
theorem uniq_nodup {α : Type} [DecidableEq α] : ∀ {l : List α}, (uniq l).Nodup
  | [] => List.nodup_nil
  | x :: l => by
    rw [uniq, List.nodup_cons]
    exact ⟨fun h => by simp at h, uniq_nodup.filter _⟩
theorem uniq_id {α : Type} [DecidableEq α] : ∀ {l : List α}, l.Nodup → uniq l = l
  | [], _ => rfl
  | x :: l, h => by
    obtain ⟨h1, h2⟩ := List.nodup_cons.1 h
    rw [uniq, uniq_id h2, List.filter_eq_self.2 fun y hy => by simp; exact fun e => h1 (e ▸ hy)]
theorem uniq_le {α : Type} [DecidableEq α] {l : List α} : (uniq l).length ≤ l.length := nodup_le uniq_nodup fun _ h => uniq_mem.1 h
theorem uniq_len {α : Type} [DecidableEq α] {l : List α} (h : (uniq l).length = l.length) : l.Nodup := by
  induction l with
  | nil => exact List.nodup_nil
  | cons x l ih =>
    rw [uniq, List.length_cons, List.length_cons] at h
    have h1 := List.length_filter_le (fun y => decide (y ≠ x)) (uniq l)
    have h2 := uniq_le (l := l)
    have h3 : (uniq l).length = l.length := by omega
    refine List.nodup_cons.2 ⟨fun hx => ?_, ih h3⟩
    have h4 : ((uniq l).filter fun y => decide (y ≠ x)).length = (uniq l).length := by omega
    have h5 := List.length_filter_eq_length_iff.1 h4 x (uniq_mem.2 hx)
    simp at h5
def SetGO (w : World) (a : Addr) (ks : List Key) : HO := .ext fun h => SetG w h a ks
theorem setGO_ok {P : Program} {w : World} {H : Hp} {h : Heap} {a : Addr} {ks : List Key} (R : SetG w h a ks) : ObjOk P w H h a (SetGO w a ks) := by
  obtain ⟨o, es, ep, t, ho, rest⟩ := id R
  exact ⟨R, ⟨o, ho⟩, fun _ _ z k => z.at fun o e => k o e⟩
section
variable {X : Cx}
theorem CallR.andC {f : Value} {r : List V → Hp → VK → Prop} (h : X.calm = true → CallR X f r) (hc : X.calm = true) : CallR X f r := h hc
def rSetG (K : PySem.W.Frag) (w : World) : List V → Hp → VK → Prop := fun xs H Q => ∃ (a : Addr) (ks : List Key), xs = [.ref a] ∧ SqA K H a (ks.map kV) ∧ ks.length ≤ 1000 ∧ ∀ p, H p = none → Q (.ref p) (upd H p (SetGO w p ks))
theorem vals_key : ∀ {ks : List Key} {us : List Value} {i : Nat} {v : Value}, Vals (ks.map kV) us → us[i]? = some v → ∃ k, ks[i]? = some k ∧ keyIs k v = true
  | [], _, i, v, .nil, e => by simp at e
  | k :: ks, _, 0, v, .cons r _, e => by
    simp at e; subst e
    refine ⟨k, rfl, ?_⟩
    cases k with
    | inl i => obtain ⟨t, rfl⟩ := r; exact keyIs_int i t
    | inr x => obtain ⟨t, rfl⟩ := r; exact keyIs_str x t
  | k :: ks, _, i + 1, v, .cons _ rr, e => by
    obtain ⟨k', h1, h2⟩ := vals_key (i := i) rr (by simpa using e)
    exact ⟨k', by simpa using h1, h2⟩
theorem call_setO (hc : X.calm = true) : CallR X (.type "set") (rSetG X.K X.w) := by
  intro pins s σ H vs us Q I r h
  obtain ⟨a, ks, rfl, hq, hl, q⟩ := h
  rw [Vals.ref1 r]
  obtain ⟨its, T, o, n, rv, hz, hT, e, c, d⟩ := seq_obj I hq
  have hlen : its.length = ks.length := by rw [← rv.length, List.length_map]
  refine call_setG (ks := ks) (I.ok.hd hc) hT e c d hlen (fun i v hv => vals_key rv hv) (by unfold scanBound; omega) fun h' tk R k => ?_
  have hn : s.heap.get? s.heap.objs.size = none := by
    cases q : s.heap.get? s.heap.objs.size with
    | none => rfl
    | some o => exact absurd (Heap.lt_size q) (Nat.lt_irrefl _)
  have hH : H s.heap.objs.size = none := I.hok.gone hn
  exact ⟨.ref s.heap.objs.size, _, I.laidN (t' := tk) k hn hH (setGO_ok R), rfl, q _ hH⟩
def setI (ns : List Int) : List Int := sortInts (uniq ns)
def setS (ws : List Str) : List Str := sortStrs (uniq ws)
def rSortG (w : World) : List V → Hp → VK → Prop := fun xs H Q => ∃ (a : Addr) (ks : List Key), xs = [.ref a] ∧ H a = some (SetGO w a ks) ∧ ks.length ≤ 1000 ∧
  ((∃ ns : List Int, ks = ns.map Sum.inl ∧ ∀ p, H p = none → Q (.ref p) (upd H p (.lst ((setI ns).map V.int)))) ∨ (∃ ws : List Str, ks = ws.map Sum.inr ∧ ∀ p, H p = none → Q (.ref p) (upd H p (.lst ((setS ws).map V.str)))))
theorem sorted_setG {P : Program} {w : World} {A : Around} {E : Value → Shared → Prop} {s : Shared} {a : Addr} {ks : List Key} {κ : PyProof.Rows.KeyKind} (one : κ.OneLt) {Q : Value → Shared → Prop} (R : SetG w s.heap a ks) (hh : A.handled = none)
    (keys : ∀ vs : List Value, (∀ v ∈ vs, ∃ k ∈ ks, keyIs k v = true) → KeysOf κ (pairsOf vs) ∧ ∀ v₁ v₂ rest, vs = v₁ :: v₂ :: rest → keyKind' (v₁ :: v₂ :: rest).toArray = pure oneType')
    (go : ∀ (s' : Shared) (p : Addr) (vs : List Value) (st : SortSt), (∀ v ∈ vs, ∃ k ∈ ks, keyIs k v = true) → (vs.map fun v => kOf (0, v)).Nodup → (∀ k ∈ ks, k ∈ vs.map fun v => kOf (0, v)) → s.heap.get? p = none → (∀ b o, s.heap.get? b = some o → s'.heap.get? b = some o) → s'.gens = s.gens → s'.os = s.os → (arrOf st).Perm (pairsOf vs) → SortedToK κ (arrOf st) (pairsOf vs).size → (∃ e, s'.heap.get? p = some (seqObj "list" ((arrOf st).map (·.2)) e)) → Q (.ref p) s') :
    wpAny (model P w) A (call (.builtin "sorted") [.ref a]) Q E s := by
  obtain ⟨o, es, ep, t, ho, hex, hd, ⟨g, nd, hm⟩, hb, hf, hr, hl⟩ := R
  refine Calls.call_function_entry kind_sorted plain_sorted entry_sorted (args_sorted1 _) ?_
  show wpAny _ _ (Builtin.«sorted» _) _ _ _
  unfold Builtin.«sorted»
  refine wpAny_bind (m := checkCount "sorted" 1 1 _) (wpAny_pure (wpAny_bind (collect_set (A := A.in1) hh ⟨o, ho, hex.1, hd⟩ hf hb hr hl fun s1 vs k1 hz g1 o1 pm => ?_)))
  obtain ⟨h1, gs, dr, tk, os⟩ := s1
  have hin : ∀ v ∈ vs, ∃ k ∈ ks, keyIs k v = true := fun v hv => by
    obtain ⟨e, he, q⟩ := List.mem_map.mp (pm.mem_iff.mp hv)
    exact ⟨kOf e, (hm _).2 (List.mem_map.2 ⟨e, he, rfl⟩), q ▸ (g e he).1⟩
  have ek : ∀ e ∈ es.toList, kOf (0, e.2) = kOf e := fun e he => kOf_of (g e he).1
  have pk : (vs.map fun v => kOf (0, v)).Perm (es.toList.map kOf) := by
    have q := pm.map fun v => kOf (0, v)
    rw [List.map_map] at q
    refine q.trans (List.Perm.of_eq ?_)
    exact List.map_congr_left fun e he => ek e he
  have small : vs.length ≤ sizeLine := by
    rw [pm.length_eq, List.length_map, Array.length_toList]
    exact fits_of_scanBound hb
  refine wpAny_bind (wpAny_newList ?_ (hsz := small))
  have here : (h1.push (seqObj "list" vs.toArray 0)).get? h1.objs.size = some (seqObj "list" vs.toArray 0) := Heap.get?_push_size _ rfl
  obtain ⟨c1, c2⟩ := keys vs hin
  have none_ : s.heap.get? h1.objs.size = none := by
    cases e : s.heap.get? h1.objs.size with
    | none => rfl
    | some o => exact absurd (Heap.lt_size (k1 _ _ e)) (Nat.lt_irrefl _)
  have fin := fun (st : SortSt) => go ⟨sortedHeap (h1.push (seqObj "list" vs.toArray 0)) h1.objs.size vs ((arrOf st).map (·.2)), gs, dr, tk, os⟩ h1.objs.size vs st hin (pk.nodup_iff.2 nd) (fun k hk => pk.mem_iff.2 ((hm k).1 hk)) none_ (fun b o e => sorted_keeps (fun z => by rw [z, none_] at e; cases e) (Heap.get?_push_of_some _ (k1 b o e))) g1 o1
  clear go hin pk hm g nd keys
  dsimp only
  refine wpAny_bind (wpAny_holding (wpAny_call_entry slot_list_sort (s := ⟨h1.push (seqObj "list" vs.toArray 0), gs, dr, tk, os⟩) ⟨_, here, rfl⟩ entry_list_sort (list_sort_treeKAny one here c1 c2 small fun st e1 e2 => ⟨_, rfl, wpAny_pure ⟨_, rfl, ?_⟩⟩) (args_list_sort _)))
  dsimp only
  exact fin st e1 e2 (sorted_there here)
theorem all_ints : ∀ {vs : List Value} {ns : List Int}, (∀ v ∈ vs, ∃ k ∈ ns.map (Sum.inl : Int → Key), keyIs k v = true) → ∃ ms : List Int, IntsAre vs ms ∧ vs.map (fun v => kOf (0, v)) = ms.map Sum.inl
  | [], _, _ => ⟨[], .nil, rfl⟩
  | v :: vs, ns, h => by
    obtain ⟨k, hk, kv⟩ := h v List.mem_cons_self
    obtain ⟨i, _, rfl⟩ := List.mem_map.1 hk
    obtain ⟨ms, h1, h2⟩ := all_ints (vs := vs) (ns := ns) fun u hu => h u (List.mem_cons_of_mem _ hu)
    rcases keyIs_shape kv with ⟨j, t, e, rfl⟩ | ⟨x, t, e, _⟩
    · exact ⟨j :: ms, .cons j t h1, by rw [List.map_cons, List.map_cons, h2]; rfl⟩
    · cases e
theorem all_strs : ∀ {vs : List Value} {ws : List Str}, (∀ v ∈ vs, ∃ k ∈ ws.map (Sum.inr : Str → Key), keyIs k v = true) → ∃ ms : List Str, StrsAre vs ms ∧ vs.map (fun v => kOf (0, v)) = ms.map Sum.inr
  | [], _, _ => ⟨[], .nil, rfl⟩
  | v :: vs, ns, h => by
    obtain ⟨k, hk, kv⟩ := h v List.mem_cons_self
    obtain ⟨i, _, rfl⟩ := List.mem_map.1 hk
    obtain ⟨ms, h1, h2⟩ := all_strs (vs := vs) (ws := ns) fun u hu => h u (List.mem_cons_of_mem _ hu)
    rcases keyIs_shape kv with ⟨x, t, e, _⟩ | ⟨j, t, e, rfl⟩
    · cases e
    · exact ⟨j :: ms, .cons j t h1, by rw [List.map_cons, List.map_cons, h2]; rfl⟩
theorem nodup_of_map {α β : Type} {f : α → β} : ∀ {l : List α}, (l.map f).Nodup → l.Nodup
  | [], _ => List.nodup_nil
  | x :: l, h => by
    rw [List.map_cons, List.nodup_cons] at h
    exact List.nodup_cons.2 ⟨fun hx => h.1 (List.mem_map.2 ⟨x, hx, rfl⟩), nodup_of_map h.2⟩
theorem call_sortedG (hc : X.calm = true) : CallR X (.builtin "sorted") (rSortG X.w) := by
  intro pins s σ H vs us Q I r h
  obtain ⟨a, ks, rfl, ha, hks, h⟩ := h
  rw [Vals.ref1 r]
  obtain ⟨R, _⟩ : ObjOk X.prog X.w H s.heap a (SetGO X.w a ks) := I.hok a _ ha
  have fin : ∀ {p : Addr} {s' : Shared} {ws : List V} {out : List Value} {ep : Nat}, s.heap.get? p = none → (∀ b o, s.heap.get? b = some o → s'.heap.get? b = some o) → s'.gens = s.gens → s'.os = s.os → s'.heap.get? p = some (seqObj "list" out.toArray ep) → Vals ws out → ws.length ≤ sizeLine → (∀ q, H q = none → Q (.ref q) (upd H q (.lst ws))) →
      ∃ v H1, Inv X pins σ H1 s' ∧ RelV v (.ref p) ∧ Q v H1 := fun {p s' ws out ep} n k eg eo e rv hz q => by
    have hn := I.hok.gone n
    exact ⟨.ref p, upd H p (.lst ws), I.call' (ch := []) eo (Un.laidN k n hn) (I.hok.laidN k hn ⟨hz, out, ep, rv, e⟩) (eg ▸ I.bare) (fun _ z => nomatch z), rfl, q p hn⟩
  rcases h with ⟨ns, rfl, q⟩ | ⟨ss, rfl, q⟩
  · refine sorted_setG intKind_oneLt R (I.ok.hd hc) (fun vs hv => ?_) fun s' p vs st hv nd mem n k eg eo hp hs ⟨ep, ee⟩ => ?_
    · obtain ⟨ms, hi, _⟩ := all_ints hv
      exact ⟨hi.keysOfInt, fun v₁ v₂ rest e => keyKind_ints (e ▸ hi)⟩
    · obtain ⟨ms, hi, em⟩ := all_ints hv
      obtain ⟨ls, h1, h2, h3⟩ := sorted_out hi hp (sortedTo_of_int hs)
      rw [em] at nd mem
      have hpm : ms.Perm (uniq ns) := (List.perm_ext_iff_of_nodup (nodup_of_map nd) uniq_nodup).2 fun i => by
        rw [uniq_mem]
        constructor
        · intro hi'
          have : (Sum.inl i : Key) ∈ vs.map fun v => kOf (0, v) := by rw [em]; exact List.mem_map.2 ⟨i, hi', rfl⟩
          obtain ⟨v, hv', e⟩ := List.mem_map.1 this
          obtain ⟨k, hk, kv⟩ := hv v hv'
          rw [kOf_of kv] at e
          subst e
          obtain ⟨j, hj, e⟩ := List.mem_map.1 hk
          cases e; exact hj
        · intro hi'
          obtain ⟨j, hj, e⟩ := List.mem_map.1 (mem _ (List.mem_map.2 ⟨i, hi', rfl⟩))
          cases e; exact hj
      cases uniq_ints ((h2.trans hpm).trans (sortInts_perm (uniq ns)).symm) h3 (sortInts_sorted _)
      refine fin n k eg eo ee (vals_of_ints h1) ?_ q
      rw [List.length_map] at hks ⊢
      rw [(sortInts_perm _).length_eq, sizeLine_eq]
      exact Nat.le_trans uniq_le (by omega)
  · refine sorted_setG strKind_oneLt R (I.ok.hd hc) (fun vs hv => ?_) fun s' p vs st hv nd mem n k eg eo hp hs ⟨ep, ee⟩ => ?_
    · obtain ⟨ms, hi, _⟩ := all_strs hv
      exact ⟨hi.keysOf, fun v₁ v₂ rest e => keyKind_strs (e ▸ hi)⟩
    · obtain ⟨ms, hi, em⟩ := all_strs hv
      obtain ⟨ls, h1, h2, h3⟩ := sorted_out_str hi hp hs
      rw [em] at nd mem
      have hpm : ms.Perm (uniq ss) := (List.perm_ext_iff_of_nodup (nodup_of_map nd) uniq_nodup).2 fun i => by
        rw [uniq_mem]
        constructor
        · intro hi'
          have : (Sum.inr i : Key) ∈ vs.map fun v => kOf (0, v) := by rw [em]; exact List.mem_map.2 ⟨i, hi', rfl⟩
          obtain ⟨v, hv', e⟩ := List.mem_map.1 this
          obtain ⟨k, hk, kv⟩ := hv v hv'
          rw [kOf_of kv] at e
          subst e
          obtain ⟨j, hj, e⟩ := List.mem_map.1 hk
          cases e; exact hj
        · intro hi'
          obtain ⟨j, hj, e⟩ := List.mem_map.1 (mem _ (List.mem_map.2 ⟨i, hi', rfl⟩))
          cases e; exact hj
      cases uniq_strs ((h2.trans hpm).trans (sortStrs_perm (uniq ss)).symm) (sortedS_pw h3) (sortStrs_sorted _)
      refine fin n k eg eo ee (vals_of_strs h1) ?_ q
      rw [List.length_map] at hks ⊢
      rw [(sortStrs_perm _).length_eq, sizeLine_eq]
      exact Nat.le_trans uniq_le (by omega)
def rLenG (w : World) : List V → Hp → VK → Prop := fun xs H Q => ∃ (a : Addr) (ks : List Key), xs = [.ref a] ∧ H a = some (SetGO w a ks) ∧ Q (.int ((uniq ks).length : Nat)) H
theorem call_lenG : CallR X (.builtin "len") (rLenG X.w) := by
  intro pins s σ H vs us Q I r h
  obtain ⟨a, ks, rfl, ha, q⟩ := h
  rw [Vals.ref1 r]
  obtain ⟨R, _⟩ : ObjOk X.prog X.w H s.heap a (SetGO X.w a ks) := I.hok a _ ha
  obtain ⟨o, es, ep, t, ho, hex, hd, ⟨g, nd, hm⟩, hb, hf, hr, hl⟩ := R
  have hn : es.size = (uniq ks).length := by
    have pk : (uniq ks).Perm (es.toList.map kOf) := (List.perm_ext_iff_of_nodup uniq_nodup nd).2 fun i => by rw [uniq_mem]; exact hm i
    rw [pk.length_eq, List.length_map, Array.length_toList]
  refine call_len_set ho hex hd hf (by unfold scanBound at hb; omega) ⟨.int ((uniq ks).length : Nat), H, I.tok _, ⟨_, by rw [hn]⟩, q⟩
end
/-! ### over plain data -/
/-- the keys of a list or a tuple: all ints, or all texts -/
def keysD (x : D) : Option (List Int ⊕ List Str) := match x.items? with
  | some xs => if Nat.ble xs.length 1000 then (match allOf D.int? xs with
    | some ns => some (.inl ns)
    | none => (match allOf D.str? xs with | some ws => some (.inr ws) | none => none)) else none
  | none => none
def sortSetF : List D → Option (List D)
  | [x] => (match keysD x with
    | some (.inl ns) => some ((setI ns).map D.int)
    | some (.inr ws) => some ((setS ws).map D.str)
    | none => none)
  | _ => none
def lenSetD : List D → Option D
  | [x] => (match keysD x with
    | some (.inl ns) => some (.int ((uniq ns).length : Nat))
    | some (.inr ws) => some (.int ((uniq ws).length : Nat))
    | none => none)
  | _ => none
theorem items_sq {K : PySem.W.Frag} {T : Tb} {S H : Hp} {x : D} {u : V} {xs : List D} (e : Same S H) (h : RpH K T S H x u) (hi : x.items? = some xs) : ∃ a vs, u = .ref a ∧ SqA K H a vs ∧ Rps K T S xs vs := by
  cases x with
  | lst ys =>
    cases hi
    obtain ⟨a, vs, rfl, h1, h2⟩ := h.lst e
    exact ⟨a, vs, rfl, .inl (SqL.of h1), h2⟩
  | tup ys =>
    cases hi
    obtain ⟨a, vs, rfl, h1, h2⟩ := h.tup e
    exact ⟨a, vs, rfl, .inr h1, h2⟩
  | _ => cases hi
theorem uniq_map {α β : Type} [DecidableEq α] [DecidableEq β] {f : α → β} (inj : ∀ x y, f x = f y → x = y) : ∀ l : List α, uniq (l.map f) = (uniq l).map f
  | [] => rfl
  | x :: l => by
    rw [List.map_cons, uniq, uniq, List.map_cons, uniq_map inj l, List.filter_map]
    congr 2
    apply List.filter_congr
    intro y _
    simp only [Function.comp, decide_eq_decide]
    exact ⟨fun h e => h (congrArg f e), fun h e => h (inj _ _ e)⟩
theorem keysD_of {K : PySem.W.Frag} {T : Tb} {S H : Hp} {x : D} {u : V} {z : List Int ⊕ List Str} (e : Same S H) (h : RpH K T S H x u) (hk : keysD x = some z) : ∃ a ks, u = .ref a ∧ SqA K H a (List.map kV ks) ∧ ks.length ≤ 1000 ∧ ((∃ ns, z = .inl ns ∧ ks = ns.map Sum.inl) ∨ (∃ ws, z = .inr ws ∧ ks = ws.map Sum.inr)) := by
  unfold keysD at hk
  split at hk
  case h_2 => cases hk
  case h_1 xs hi =>
  obtain ⟨a, vs, rfl, hq, rp⟩ := items_sq e h hi
  split at hk
  case isFalse => cases hk
  case isTrue hl =>
  have hl := Nat.le_of_ble_eq_true hl
  split at hk
  · rename_i ns hn
    cases hk
    have := allOf_ints hn
    subst this
    rw [rp.intsV] at hq
    refine ⟨a, ns.map Sum.inl, rfl, ?_, by rw [List.length_map] at hl ⊢; exact hl, .inl ⟨ns, rfl, rfl⟩⟩
    rw [List.map_map]; exact hq
  · split at hk
    · rename_i ws hn
      cases hk
      have := allOf_strs hn
      subst this
      rw [rp.strsV] at hq
      refine ⟨a, ws.map Sum.inr, rfl, ?_, by rw [List.length_map] at hl ⊢; exact hl, .inr ⟨ws, rfl, rfl⟩⟩
      rw [List.map_map]; exact hq
    · cases hk
section
variable {X : Cx} {T : Tb} {W : WX} {e : Expr} {fs : Rho → R (List VD)} {p p2 q pos : Pos}
theorem xf_sortSet (hc : X.calm = true) (hm : X.mg "sorted" = none) (hm2 : X.mg "set" = none) (ha : XA X T W [e] fs) (hg : L2.Gl X "sorted" := by rfl) (hg2 : L2.Gl X "set" := by rfl) (he : starEach [e] X.env = (false, eval e X.env) :: starEach [] X.env := by rfl)
    (he2 : starEach [.Call (.Name "set" p2) [e] [] q] X.env = (false, eval (.Call (.Name "set" p2) [e] [] q) X.env) :: starEach [] X.env := by rfl) : XF X T W (.Call (.Name "sorted" p) [.Call (.Name "set" p2) [e] [] q] [] pos) (opNF sortSetF fs) :=
  (pe_callB (call_sortedG hc) hg hm (by decide +kernel) (pa_cons (pe_callTy (call_setO hc) hg2 hm2 (by decide +kernel) ha (by decide) (by decide) he rfl) pa_nil he2) (by decide) (by decide) he2 rfl).impQ fun σ H Q h => by
    obtain ⟨β, G, S, ρ, o, p⟩ := h
    refine ⟨β, G, S, ρ, o, PostF.thn (Rl := RpVs X.K T σ) p fun S1 H1 ρ1 vs us e1 o1 h1 p1 => ?_⟩
    split at p1
    case h_2 => exact p1.elim
    case h_1 ds hr =>
    have rh := o1.resAll h1 hr
    split at p1
    case h_2 => exact p1.elim
    case h_1 d hd =>
    unfold sortSetF at hd
    split at hd
    case h_2 => cases hd
    case h_1 x =>
    obtain ⟨u, rfl, hu⟩ := rh.one
    split at hd
    · rename_i ns hk
      cases hd
      obtain ⟨a, ks, rfl, hq, hl, hz⟩ := keysD_of o1.sh hu hk
      rcases hz with ⟨_, hz, rfl⟩ | ⟨_, hz, rfl⟩
      · cases hz
        refine ⟨a, _, rfl, hq, hl, fun p hp => ⟨p, _, rfl, upd_same, hl, .inl ⟨ns, rfl, fun p' hp' => ?_⟩⟩⟩
        have e2 := Ext.skip (o := SetGO X.w p (ns.map Sum.inl)) o1.sh hp
        exact (PostF.gf p1 (o1.ext e2)).new (o1.ext e2).sh (Rps.ints _) p' hp'
      · cases hz
    · rename_i ws hk
      cases hd
      obtain ⟨a, ks, rfl, hq, hl, hz⟩ := keysD_of o1.sh hu hk
      rcases hz with ⟨_, hz, rfl⟩ | ⟨_, hz, rfl⟩
      · cases hz
      · cases hz
        refine ⟨a, _, rfl, hq, hl, fun p hp => ⟨p, _, rfl, upd_same, hl, .inr ⟨ws, rfl, fun p' hp' => ?_⟩⟩⟩
        have e2 := Ext.skip (o := SetGO X.w p (ws.map Sum.inr)) o1.sh hp
        exact (PostF.gf p1 (o1.ext e2)).new (o1.ext e2).sh (Rps.strs _) p' hp'
    · cases hd
theorem xe_lenSet (hc : X.calm = true) (hm : X.mg "len" = none) (hm2 : X.mg "set" = none) (ha : XA X T W [e] fs) (hg : L2.Gl X "len" := by rfl) (hg2 : L2.Gl X "set" := by rfl) (he : starEach [e] X.env = (false, eval e X.env) :: starEach [] X.env := by rfl)
    (he2 : starEach [.Call (.Name "set" p2) [e] [] q] X.env = (false, eval (.Call (.Name "set" p2) [e] [] q) X.env) :: starEach [] X.env := by rfl) : XE X T W (.Call (.Name "len" p) [.Call (.Name "set" p2) [e] [] q] [] pos) (opNE lenSetD fs) :=
  (pe_callB call_lenG hg hm (by decide +kernel) (pa_cons (pe_callTy (call_setO hc) hg2 hm2 (by decide +kernel) ha (by decide) (by decide) he rfl) pa_nil he2) (by decide) (by decide) he2 rfl).impQ fun σ H Q h => by
    obtain ⟨β, G, S, ρ, o, p⟩ := h
    refine ⟨β, G, S, ρ, o, Post.thn (Rl := RpVs X.K T σ) p fun S1 H1 ρ1 vs us e1 o1 h1 p1 => ?_⟩
    unfold liftN at p1
    split at p1
    case h_2 => exact p1.elim
    case h_1 ds hr =>
    have rh := o1.resAll h1 hr
    split at p1
    case h_2 => exact p1.elim
    case h_1 d hd =>
    unfold lenSetD at hd
    split at hd
    case h_2 => cases hd
    case h_1 x =>
    obtain ⟨u, rfl, hu⟩ := rh.one
    have cnt : ∀ {a : Addr} {ks : List Key} {n : Nat}, SqA X.K H1 a (ks.map kV) → ks.length ≤ 1000 → (uniq ks).length = n → d = .int n → ∃ a' ks', [V.ref a] = [V.ref a'] ∧ SqA X.K H1 a' (List.map kV ks') ∧ ks'.length ≤ 1000 ∧ ∀ p, H1 p = none → rLenG X.w [.ref p] (upd H1 p (SetGO X.w p ks')) Q := fun {a ks n} hq hl hn hdn =>
      ⟨a, ks, rfl, hq, hl, fun p hp => ⟨p, ks, rfl, upd_same, by
        have e2 := Ext.skip (o := SetGO X.w p ks) o1.sh hp
        subst hdn
        rw [hn]
        exact (p1.gv (o1)) _ _ _ e2 rfl⟩⟩
    split at hd
    · rename_i ns hk
      cases hd
      obtain ⟨a, ks, rfl, hq, hl, hz⟩ := keysD_of o1.sh hu hk
      rcases hz with ⟨_, hz, rfl⟩ | ⟨_, hz, rfl⟩
      · cases hz
        exact cnt hq hl (by rw [uniq_map (fun _ _ e => Sum.inl.inj e), List.length_map]) rfl
      · cases hz
    · rename_i ws hk
      cases hd
      obtain ⟨a, ks, rfl, hq, hl, hz⟩ := keysD_of o1.sh hu hk
      rcases hz with ⟨_, hz, rfl⟩ | ⟨_, hz, rfl⟩
      · cases hz
      · cases hz
        exact cnt hq hl (by rw [uniq_map (fun _ _ e => Sum.inr.inj e), List.length_map]) rfl
    · cases hd
end
end Lq
namespace Lq
open PySem PySem.Spec PyProof.Rows L2 PySem.W
/-! ### isinstance(e, C), e an error that was caught -/
section
variable {prog : Program} {w : World} {A : Around} {E : Value → Shared → Prop} {s : Shared} {K : Frag} {x D : Addr} {ox : Obj} {od : Option Obj}
theorem find_data {C : Addr} {n : Str} {a g : Value} (hc : (clsIn K C).isSome = true) (ha : findIn K (.ref C) n = some (some a)) (hg : specialIn K a "__get__" = some (some g)) (ht : takesIn K a = some true) : findObj K C od n = some (.bind g a) := by
  obtain ⟨cd, e⟩ := Option.isSome_iff_exists.mp hc
  simp [findObj, e, ha, hg, ht]
theorem class_of_err {Q : Option Value → Shared → Prop} (C : ExcC K D) (X : K.In s.heap) (I : InstAt s.heap x ox D od) (h : Q (some (.ref D)) { s with toks := s.toks + 1 }) : wpAny (model prog w) A (getAttr? (.ref x) "__class__") Q E s := by
  have found : findObj K D od "__class__" = some (.bind (.builtin "getset_descriptor.__get__") (.builtin "object.__class__")) := find_data (by obtain ⟨cd, hc, _⟩ := any_some C.hd; rw [hc]; rfl) C.ha C.hn C.ht
  obtain ⟨hp, gs, dr, tk, os⟩ := s
  have T0 := I.type (M := model prog w)
  have T1 := looks_findIn (M := model prog w) X C.hg
  have T2 := looks_findIn (M := model prog w) X C.hk
  have T3 := looks_find (M := model prog w) X I found
  have below : Looks (model prog w) hp (isInstance (.ref x) (.type "BaseException")) true := T0.andThen (looks_subIn X C.hs)
  have z0 : (false && onTheHeap (Value.builtin "BaseException.__getattribute__")) = false := rfl
  have z1 : (onTheHeap (Value.ref D) && Value.builtin "BaseException.__getattribute__" == Value.builtin "object.__getattribute__") = false := by
    rw [show (Value.builtin "BaseException.__getattribute__" == Value.builtin "object.__getattribute__") = false by decide +kernel]
    rfl
  unfold getAttr? getAttrBy? getAttrBy
  refine wpAny_bind (wpAny_mkText (wpAny_bind (wpAny_attempt (wpAny_holding (wpAny_bind (T0.at (wpAny_bind (T1.at ?_))))))))
  show wpAny _ _ (if (onTheHeap (Value.ref D) && Value.builtin "BaseException.__getattribute__" == Value.builtin "object.__getattribute__") = true then _ else _) _ _ _
  rw [z1, if_neg Bool.false_ne_true]
  unfold getAttrByItsOwn hookBefore
  refine wpAny_bind ?_
  rw [if_pos (show onTheHeap (Value.ref D) = true from rfl)]
  refine T2.at (wpAny_bind (wpAny_attempt (wpAny_holding ?_)))
  unfold callGetattribute
  rw [z0, if_neg Bool.false_ne_true]
  unfold boundAndCalled
  rw [PySem.F.excAttr_ValueError.ga.bind (.ref x)]
  refine wpAny_bind (wpAny_pure ?_)
  show wpAny _ _ (call (.builtin "BaseException.__getattribute__") [.ref x, .str "__class__" tk]) _ _ _
  refine wpAny_call (codeAny_call_builtin PySem.F.excAttr_ValueError.ga.plain PySem.F.entry_bexc_ga ?_)
  refine @check_slot (model prog w) _ _ ⟨hp, gs, dr, tk + 1, os⟩ "BaseException.__getattribute__" "BaseException" "__getattribute__" (.ref x) [.str "__class__" tk] [] _ (by decide +kernel) (by decide +kernel) below (PySem.F.args_bexc_ga (.ref x) (.str "__class__" tk)) ?_
  unfold Builtin.«object.__getattribute__»
  refine wpAny_bind (wpAny_of_eq (a := ((Value.ref x : Value), [Value.str "__class__" tk])) (by first | rfl | (simp only [slotArgs]; rfl)) (wpAny_bind (wpAny_pure (wpAny_bind (T0.at (wpAny_bind (T3.at ?_)))))))
  show wpAny _ _ (holding [Value.builtin "object.__class__"] (call (.builtin "getset_descriptor.__get__") [.builtin "object.__class__", .ref x, .ref D]) >>= ret) _ _ _
  refine wpAny_bind (wpAny_holding (wpAny_call (class_get (s := ⟨hp, gs, dr, tk + 1, os⟩) (ox := ox) (od := od) X I C.hm (wpAny_pure ?_))))
  show wpAny _ _ (handedOut (.ref D)) _ _ _
  rw [handedOut_of (v := .ref D) rfl]
  first
    | exact wpAny_pure (wpAny_pure h)
    | exact wpAny_pure h
    | exact wpAny_pure (wpAny_bind (wpAny_pure (wpAny_pure h)))
theorem kit_err (C : ExcC K D) : KitX K (.ref x) (.ref D) (fun h => ∃ ox od, InstAt h x ox D od) where
  ty := fun _ _ _ ⟨_, _, I⟩ => I.type
  it := fun _ _ X _ => by
    obtain ⟨cdD, q, _⟩ := any_some C.hd
    unfold clsIn at q
    split at q
    · rename_i ho
      intro A' Q' E' s' k r
      unfold isType loadHead
      exact wpAny_bind (wpAny_loadPart (k _ _ (X _ _ ho)) (wpAny_pure r))
    · cases q
  ne := fun h tp dd its n sl X htp => by
    obtain ⟨cdD, q, _⟩ := any_some C.hd
    refine Bool.eq_false_iff.mpr fun y => ?_
    obtain rfl : D = tp := Value.ref.inj (beq_iff_eq.mp y)
    unfold clsIn at q
    split at q
    · rename_i ho
      cases (X _ _ ho).symm.trans htp
    · cases q
  ca := fun X ⟨_, _, I⟩ k => class_of_err C X I k
end
def rIsK (K : PySem.W.Frag) : List V → Hp → VK → Prop := fun xs H Q => ∃ (a C dd : Addr) (fs : List (Str × V)) (c : V) (cv : Value) (b : Bool), xs = [.ref a, c] ∧ (∀ u, RelV c u → u = cv) ∧ ExcC K C ∧ H a = some (ExK C dd a) ∧ H dd = some (.xd fs) ∧ PySem.W.kitOne K (.ref C) cv = some b ∧ Q (.bl b) H
theorem call_isK {X : Cx} : CallR X (.builtin "isinstance") (rIsK X.K) := by
  intro pins s σ H xs us Q I r h
  obtain ⟨a, C, dd, fs, c, cv, b, rfl, hcv, eC, ea, ed, e, q⟩ := h
  cases r with
  | cons rx rr =>
    cases rr with
    | cons rt rr =>
      cases rr
      cases rx
      obtain rfl := hcv _ rt
      obtain ⟨⟨oe, vs, ha, hz, hd⟩, _⟩ : ObjOk X.prog X.w H s.heap a (ExK C dd a) := I.hok a _ ea
      have hx : ObjOk X.prog X.w H s.heap dd (.xd fs) := I.hok dd _ ed
      obtain ⟨mA, hns, hr⟩ := hx
      obtain ⟨od, ho, hl⟩ := lookIn_ns hns
      have J : PySem.W.InstAt s.heap a oe C (some od) := ⟨ha, hz.1, by unfold PySem.W.notCls; rw [hd] <;> rfl, by rw [hz.2]; exact ho⟩
      exact PySem.W.kia_one (kit_err eC) I.kIn ⟨oe, _, J⟩ e (fun z => nomatch z) fun tk => ⟨.bl b, H, I.kept (t' := tk) fun _ _ z => z, rfl, q⟩
/-- isinstance of an error: the answers by its class -/
def isErrD (ex : List (Nat × Bool)) : D → Option D
  | .obj t [_] => if isEx t then (match ex.lookup t with | some b => some (.bl b) | none => none) else none
  | _ => none
section
variable {X : Cx} {T : Tb} {W : WX} {e : Expr} {fa : Rho → R VD} {p p2 pos : Pos} {ex : List (Nat × Bool)}
theorem isErr_of {K : PySem.W.Frag} {c : V} {cv : Value} {te : TE} {σ : L2.St} {H : Hp} {Q : VK} (hT : ∀ t b, ex.lookup t = some b → ExcC K (T t) ∧ PySem.W.kitOne K (.ref (T t)) cv = some b) (hcv : ∀ u, RelV c u → u = cv) (h : rE K T W (op1E (isErrD ex) fa) σ H Q)
    (hc : ∀ H' Q', Q' c H' → te σ H' Q') : rE K T W fa σ H fun x H1 => te σ H1 fun y H2 => rIsK K [x, y] H2 Q := by
  obtain ⟨β, G, S, ρ, o, p⟩ := h
  refine ⟨β, G, S, ρ, o, Post.thn (Rl := RpV K T σ) p fun S1 H1 ρ1 v u e1 o1 h1 p1 => hc _ _ ?_⟩
  refine Post.lift1 (r := fun x H1 Q => rIsK K [x, c] H1 Q) ?_ o1 h1 p1
  intro S H x dx d Q e hx hd g
  unfold isErrD at hd
  split at hd
  case h_2 => cases hd
  case h_1 t d0 =>
  split at hd
  case isFalse => cases hd
  case isTrue ie =>
  split at hd
  case h_2 => cases hd
  case h_1 b hb =>
  cases hd
  obtain ⟨t1, t2⟩ := hT t b hb
  rcases hx with ⟨a, vs, rfl, ob, rps⟩ | ⟨_, _, _, _, z, _⟩
  · rcases ob with ⟨_, dd, s1, s2⟩ | ⟨z, _⟩
    · exact ⟨a, T t, dd, _, c, cv, b, rfl, hcv, t1, e _ _ s1, e _ _ s2, t2, g.now e rfl⟩
    · rw [z] at ie; cases ie
  · cases z
theorem xe_isErr {x : Str} {C : Addr} (hz : X.mg "isinstance" = none) (hm : X.mg x = some (.ref C)) (hT : ∀ t b, ex.lookup t = some b → ExcC X.K (T t) ∧ PySem.W.kitOne X.K (.ref (T t)) (.ref C) = some b) (ha : XE X T W e fa) (hgx : L2.Gl X x := by rfl) (hdx : (x == ("__debug__" : Str)) = false := by decide)
    (hg : L2.Gl X "isinstance" := by rfl) (he : starEach [e, .Name x p2] X.env = (false, eval e X.env) :: starEach [.Name x p2] X.env := by rfl) (he2 : starEach [.Name x p2] X.env = (false, eval (.Name x p2) X.env) :: starEach [] X.env := by rfl) :
    XE X T W (.Call (.Name "isinstance" p) [e, .Name x p2] [] pos) (op1E (isErrD ex) fa) :=
  (pe_callB call_isK hg hz (by decide +kernel) (pa_cons ha (pa_cons (pe_glob (v := .ref C) hgx hm rfl hdx) pa_nil he2) he) (by decide) (by decide) he (by rw [he2]; rfl)).impQ fun σ H Q h =>
    isErr_of (c := .ref C) (te := tC (.ref C)) hT (fun _ z => z) h fun _ _ q => q
theorem xe_isErrB {x : Str} {n : String} (hz : X.mg "isinstance" = none) (hm : X.mg x = none) (hv : bootBuiltins x = some (.type n)) (hT : ∀ t b, ex.lookup t = some b → ExcC X.K (T t) ∧ PySem.W.kitOne X.K (.ref (T t)) (.type n) = some b) (ha : XE X T W e fa) (hgx : L2.Gl X x := by rfl) (hdx : (x == ("__debug__" : Str)) = false := by decide) (hn : x ≠ "__name__" := by decide)
    (hg : L2.Gl X "isinstance" := by rfl) (he : starEach [e, .Name x p2] X.env = (false, eval e X.env) :: starEach [.Name x p2] X.env := by rfl) (he2 : starEach [.Name x p2] X.env = (false, eval (.Name x p2) X.env) :: starEach [] X.env := by rfl) :
    XE X T W (.Call (.Name "isinstance" p) [e, .Name x p2] [] pos) (op1E (isErrD ex) fa) :=
  (pe_callB call_isK hg hz (by decide +kernel) (pa_cons ha (pa_cons (pe_bltn (v := .ty n) hgx hm hv rfl hn hdx) pa_nil he2) he) (by decide) (by decide) he (by rw [he2]; rfl)).impQ fun σ H Q h =>
    isErr_of (c := .ty n) (te := tC (.ty n)) hT (fun _ z => z) h fun _ _ q => q
end
theorem exi_nil {K : PySem.W.Frag} {T : Tb} {c : Value} : ∀ t b, List.lookup t ([] : List (Nat × Bool)) = some b → ExcC K (T t) ∧ PySem.W.kitOne K (.ref (T t)) c = some b := fun t b h => by cases h
theorem exi_cons {K : PySem.W.Frag} {T : Tb} {c : Value} {t0 : Nat} {b0 : Bool} {r : List (Nat × Bool)} (h0 : ExcC K (T t0)) (h : PySem.W.kitOne K (.ref (T t0)) c = some b0) (hr : ∀ t b, List.lookup t r = some b → ExcC K (T t) ∧ PySem.W.kitOne K (.ref (T t)) c = some b) :
    ∀ t b, List.lookup t ((t0, b0) :: r) = some b → ExcC K (T t) ∧ PySem.W.kitOne K (.ref (T t)) c = some b := fun t b q => by
  rw [List.lookup_cons] at q
  by_cases e : t = t0
  · subst e
    simp at q
    rw [← q]; exact ⟨h0, h⟩
  · have : (t == t0) = false := by simpa using e
    rw [this] at q
    exact hr t b q
end Lq
namespace Lq
open PySem PySem.Spec PyProof.Rows L2
/-! ### keywords in any order -/
section
variable {X : Cx} {T : Tb} {W : WX} {e : Expr} {es : List Expr} {fs : Rho → R (List VD)} {pos : Pos}
/-- the values by the parameters' order: pm tells where each stands among the keywords -/
def permL {α : Type} (pm : List Nat) (xs : List α) : List α := pm.filterMap fun i => xs[i]?
def KwP (K : PySem.W.Frag) (fd : FuncData) (ps ks : List Str) (pm : List Nat) : Prop := ∀ (s : Shared) (ws : List Value), K.In s.heap → ws.length = ks.length → BindsTo s fd ⟨[], ks.zip ws⟩ (ps.zip (permL pm ws))
theorem kwP_of {K : PySem.W.Frag} {x qual : Str} {st : Stmt} {f : Addr} {fd : FuncData} {ps ks : List Str} {pm : List Nat} (F : Fun K x qual st f fd)
    (h : ∀ (kV doc pmv : Value) (an : Option Addr) (cdv ct : Value) (ws : List Value), ws.length = ks.length → bindArgs (PySem.W.fnOf x qual (defArgs st) (defBody st) (defScope st) .none kV doc pmv an cdv ct) ⟨[], ks.zip ws⟩ = pure (ps.zip (permL pm ws))) : KwP K fd ps ks pm := by
  obtain ⟨oc, od, kV, doc, pmv, an, cdv, ct, osl, rfl, lk, hcd⟩ := F.ex
  exact fun s ws _ hl => .of_eq (h kV doc pmv an cdv ct ws hl)
theorem Vals.perm {pm : List Nat} {vs : List V} {us : List Value} (r : Vals vs us) : Vals (permL pm vs) (permL pm us) := by
  induction pm with
  | nil => exact .nil
  | cons i pm ih =>
    unfold permL at ih ⊢
    rw [List.filterMap_cons, List.filterMap_cons]
    cases q : vs[i]? with
    | none =>
      have : us[i]? = none := by
        rw [List.getElem?_eq_none_iff] at q ⊢
        rw [← r.length]; exact q
      rw [this]; exact ih
    | some v =>
      obtain ⟨u, hu, ru⟩ := r.get q
      rw [hu]; exact .cons ru ih
def tCallSp (sp : Sp) (E : L2.St → L2.XK) (pm : List Nat) (t : TA) : TE := fun σ H Q => t σ H fun vs H1 => sp (permL pm vs) H1 Q (E σ)
theorem pe_kwp {CX : CXT} {k : Nat} {f : Addr} {fd : FuncData} {ps ks : List Str} {pm : List Nat} {sp : Sp} {E : L2.St → L2.XK} {x : Str} {p : Pos} {kws : List Keyword} {tk : TA} (Fk : FnOk X.prog X.w X.K X.mg X.base CX k f fd ps sp) (hr : Room k X.A) (hg : L2.Gl X x) (hm : X.mg x = some (.ref f)) (hk : PySem.W.keepIn X.K (.ref f) = true) (hb : KwP X.K fd ps ks pm) (hx : ∀ σ, PassesAt CX X σ (E σ))
    (hkw : PK X kws tk) (hlen : ∀ {σ H Q}, tk σ H Q → tk σ H fun vs H1 => vs.length = ks.length ∧ Q vs H1) (hall : (backToKw pos (keywordEach kws X.env)).all (·.1.isSome) = true := by rfl) (hks : (backToKw pos (keywordEach kws X.env)).filterMap (·.1) = ks := by rfl)
    (hdb : (x == ("__debug__" : Str)) = false := by decide) (hpl : ((backTo pos (starEach [] X.env)).any (·.1) || (backToKw pos (keywordEach kws X.env)).any (·.1.isNone)) = false := by rfl) :
    PE X (.Call (.Name x p) [] kws pos) (tCallSp sp E pm tk) := by
  refine ⟨fun pins s σ H Q I h => wpAny_Call_Name_kw (ld_glob I hg hm ?_ hdb)⟩
  refine PySem.W.callWith_KW0 (h₀ := X.base) I.ok.mod.kin hk hall (thn (hkw.run pos pins s σ H _ I (hlen h)) fun ws s2 ⟨zs, H2, I2, rz, hl, q2⟩ => ⟨I2.kIn, ?_⟩) hpl
  rw [hks]
  have hl2 : ws.length = ks.length := rz.length.symm.trans hl
  refine wpAny_call (codeAny_mono (Fk.run X.A X.stack s2 H2 ⟨[], ks.zip ws⟩ (permL pm ws) (permL pm zs) Q (E σ) hr I2.env0 (hb s2 ws I2.kIn hl2) (Lq.Vals.perm rz) q2) fun r s' hq => ?_)
  cases r with
  | error e => exact hx σ pins H2 s2 e s' I2 hq
  | ok fl => cases fl with
    | ret u => exact I2.after hq
    | _ => exact hq.elim
theorem RpVs.perm {K : PySem.W.Frag} {σ : L2.St} {S : Hp} {pm : List Nat} {vs : List VD} {us : List V} (h : RpVs K T σ S vs us) : RpVs K T σ S (permL pm vs) (permL pm us) := by
  have get : ∀ {vs : List VD} {us : List V} (i : Nat), RpVs K T σ S vs us → (vs[i]? = none ∧ us[i]? = none) ∨ ∃ v u, vs[i]? = some v ∧ us[i]? = some u ∧ RpV K T σ S v u := by
    intro vs
    induction vs with
    | nil => intro us i h; rw [show us = [] from h]; exact .inl ⟨rfl, rfl⟩
    | cons v vs ih =>
      intro us i h
      obtain ⟨u, r, rfl, h1, h2⟩ := h
      cases i with
      | zero => exact .inr ⟨v, u, rfl, rfl, h1⟩
      | succ i => exact ih i h2
  induction pm with
  | nil => exact rfl
  | cons i pm ih =>
    unfold permL at ih ⊢
    rw [List.filterMap_cons, List.filterMap_cons]
    rcases get i h with ⟨a, b⟩ | ⟨v, u, a, b, r⟩
    · rw [a, b]; exact ih
    · rw [a, b]; exact ⟨u, _, rfl, r, ih⟩
/-- the values, by the parameters -/
def permA (n : Nat) (pm : List Nat) (fs : Rho → R (List VD)) : Rho → R (List VD) := fun ρ => (fs ρ).bind fun vs ρ1 => if vs.length = n then .ok (permL pm vs) ρ1 else .bad
theorem RpVs.length {K : PySem.W.Frag} {σ : L2.St} {S : Hp} : ∀ {vs : List VD} {us : List V}, RpVs K T σ S vs us → us.length = vs.length
  | [], _, h => by rw [show _ = [] from h]; rfl
  | _ :: _, _, ⟨u, r, e1, h, hs⟩ => by rw [e1, List.length_cons, List.length_cons, RpVs.length hs]
theorem xe_callKp {F : List D → Res} {k nk : Nat} {f : Addr} {fd : FuncData} {ps ks : List Str} {pm : List Nat} {n : Nat} {x : Str} {p : Pos} {kws : List Keyword} (Fk : FnOk X.prog X.w X.K X.mg X.base (L2.CX X.prog X.w) k f fd ps (spP X.K T n F)) (hr : Room k X.A) (hm : X.mg x = some (.ref f)) (hk : PySem.W.keepIn X.K (.ref f) = true) (hb : KwP X.K fd ps ks pm)
    (tk : Takes X W) (hn : ∀ ds, F ds ≠ .bad → ds.length = n) (ha : XK X T W kws fs) (hnk : ks.length = nk := by rfl) (hg : L2.Gl X x := by rfl) (hall : (backToKw pos (keywordEach kws X.env)).all (·.1.isSome) = true := by rfl) (hks : (backToKw pos (keywordEach kws X.env)).filterMap (·.1) = ks := by rfl)
    (hdb : (x == ("__debug__" : Str)) = false := by decide) (hpl : ((backTo pos (starEach [] X.env)).any (·.1) || (backToKw pos (keywordEach kws X.env)).any (·.1.isNone)) = false := by rfl) :
    XE X T W (.Call (.Name x p) [] kws pos) (callE F (permA nk pm fs)) := by
  subst hnk
  have ha' : PK X kws (fun σ H Q => rA X.K T W fs σ H fun us H1 => us.length = ks.length ∧ Q us H1) := ⟨fun pos pins s σ H Q I h => by
    refine thn (PK.run ha pos pins s σ H _ I h) fun us s1 ⟨vs, H1, I1, r1, hl, q⟩ => ⟨vs, H1, I1, r1, q⟩⟩
  refine (pe_kwp (E := WE W) Fk hr hg hm hk hb (fun σ => passAt tk σ) ha' (fun {σ H Q} h => ?_) hall hks hdb hpl).impQ fun σ H Q h => ?_
  · obtain ⟨β, G, S, ρ, o, p⟩ := h
    refine ⟨β, G, S, ρ, o, ?_⟩
    revert p
    cases fs ρ with
    | ok a ρ1 => exact fun p S' H' u e o r => ⟨(p S' H' u e o r).1, (p S' H' u e o r).1, (p S' H' u e o r).2⟩
    | err x ρ1 => exact fun p => p
    | bad => exact fun p => p
  · have h2 := call_of hn h
    obtain ⟨β, G, S, ρ, o, p⟩ := h2
    refine ⟨β, G, S, ρ, o, ?_⟩
    unfold permA at p
    revert p
    cases fs ρ with
    | bad => exact fun p => p
    | err x ρ1 => exact fun p => p
    | ok vs ρ1 =>
      intro p S' H' us e o' r
      dsimp only [R.bind] at p
      split at p
      · rename_i hl
        exact ⟨r.length.trans hl, p S' H' _ e o' r.perm⟩
      · exact p.elim
end
end Lq
namespace Lq
open PySem PySem.Spec PyProof.Rows L2
/-! ### the law's own promise, whatever the table of classes -/
def spA (K : PySem.W.Frag) (n : Nat) (F : List D → Res) : Sp := fun vs H Q E => ∀ T, spP K T n F vs H Q E
/-! ### enumerate of lists and tuples, from any count -/
theorem meets_enum1 {v : Value} {o : Obj} {H : Heap → Prop} (B : Begins v o H) : Meets (Builtin.«enumerate.__new__» ⟨[.type "enumerate", v], []⟩) (fun _ R s => H s.heap ∧
      R (.ok (.ret (.ref (s.heap.push o).objs.size))) { s with heap := (s.heap.push o).push { cls := .type "enumerate", data := .fields #[.none, .bool false, .ref s.heap.objs.size, rawInt 0, .none, .none] } }) :=
  .of_wp fun prog w A R s ⟨h1, h⟩ => by
    obtain ⟨hp, gs, dr, tk, os⟩ := s
    have below := sub_enumerate
    have q1 : ∀ {A' : Around} {E : Value → Shared → Prop} {Q : Value → Shared → Prop}, Q (.ref hp.objs.size) ⟨hp.push o, gs, dr, tk, os⟩ → wpAny (model prog w) A' (pyIter v) Q E ⟨hp, gs, dr, tk, os⟩ := fun q => B.iter prog w _ _ ⟨hp, gs, dr, tk, os⟩ _ h1 q
    wp_walk using q1
    refine wpAny_stack_any fun st => wpAny_pure ?_
    split
    · rename_i c _ _ _ _ _
      cases (c == Value.type "enumerate") <;> (wp_walk using q1; exact ⟨_, rfl, h⟩)
    · wp_walk using q1
      exact ⟨_, rfl, h⟩
section
variable {prog : Program} {w : World} {A : Around} {E : Value → Shared → Prop} {s : Shared}
theorem enum_begin1 {v : Value} {o : Obj} {H : Heap → Prop} {Q : Value → Shared → Prop} (B : Begins v o H) (h1 : H s.heap)
    (h : ∀ h', IsEnum h' (s.heap.objs.size + 1) s.heap.objs.size 0 .none → h'.get? s.heap.objs.size = some o → (∀ b o, s.heap.get? b = some o → h'.get? b = some o) → Q (.ref (s.heap.objs.size + 1)) { s with heap := h' }) :
    wpAny (model prog w) A (call (.type "enumerate") [v]) Q E s := by
  refine callType_new F.called_enumerate (by decide) (F.typeCall_enumerate_1 _) (F.newCall_enumerate_1 _) (fun obj => F.args_object_init_2 obj _) F.entry_enumerate_new (meets_enum1 B) ⟨h1, ?_⟩
  have sz : (s.heap.push o).objs.size = s.heap.objs.size + 1 := Heap.size_push ..
  show _ ∧ _
  rw [sz]
  have en : IsEnum ((s.heap.push o).push { cls := .type "enumerate", data := .fields #[.none, .bool false, .ref s.heap.objs.size, rawInt 0, .none, .none] }) (s.heap.objs.size + 1) s.heap.objs.size 0 .none := by
    have z := Heap.get?_push_size (s.heap.push o) (o := { cls := .type "enumerate", data := .fields #[.none, .bool false, .ref s.heap.objs.size, rawInt 0, .none, .none] }) rfl
    rwa [sz] at z
  exact ⟨⟨_, en, rfl⟩, h _ en (Heap.get?_push_of_some _ (Heap.get?_push_size _ B.free)) fun b o x => Heap.get?_push_of_some _ (Heap.get?_push_of_some _ x)⟩
end
/-- the items xs of the list or tuple at a, each in a new pair, counted from k -/
def Itn2 (Sq : Hp → Prop) (xs : List V) (k : Int) : It :=
  ⟨fun i H => Sq H ∧ i < xs.length, fun i H v H' => ∃ T x, v = .ref T ∧ H T = none ∧ H' = upd H T (.tup [.int (k + (i : Nat)), x]) ∧ xs[i]? = some x, fun i H => Sq H ∧ i = xs.length⟩
/-- what a kind of sequence has to say: where its items lie, how its iterator draws -/
structure SeqK (P : Program) (w : World) (K : PySem.W.Frag) (a it : Addr) (Sq : Hp → Prop) (xs : List V) (ItA : Nat → Heap → Prop) (At : Heap → Array Value → Prop) : Prop where
  inv : ∀ {X : Cx} {pins : List (Addr × Obj)} {σ : L2.St} {H : Hp} {s : Shared}, X.K = K → Inv X pins σ H s → Sq H → ∃ its : List Value, Vals xs its ∧ At s.heap its.toArray
  draw : ∀ {A : Around} (items : Array Value), A.handled = none → Draws P w A it [it, a] items.size (fun i v => items[i]? = some v) (fun i h => ItA i h ∧ At h items)
  at_ : ∀ {i : Nat} {h h' : Heap}, ItA i h → (∀ o, h.get? it = some o → h'.get? it = some o) → ItA i h'
  obj : ∀ {i : Nat} {h : Heap}, ItA i h → ∃ o, h.get? it = some o ∧ ∀ v, o.data ≠ .cell v
  ne : a ≠ it
  there : ∀ {h : Heap} {items : Array Value}, At h items → a < h.objs.size
theorem turn_enumG {P : Program} {w : World} {K : PySem.W.Frag} {elts : List Expr} {kk : Nat} {tpos : Pos} {a e it : Addr} {Sq : Hp → Prop} {xs : List V} {ItA : Nat → Heap → Prop} {At : Heap → Array Value → Prop} {k : Int} (S : SeqK P w K a it Sq xs ItA At) (hae : a ≠ e) :
    Turn P w K (.Tuple elts kk tpos) (Itn2 Sq xs k) [e, it] e (fun i h => (∃ old, IsEnum h e it (k + (i : Nat)) old) ∧ ItA i h ∧ e ≠ it) where
  mem := List.mem_cons_self
  obj := fun i h ⟨⟨old, he⟩, hi, _⟩ b hb => by
    rcases List.mem_cons.1 hb with z | z
    · subst z; exact ⟨_, he, fun v q => nomatch q⟩
    · rw [List.mem_singleton.1 z]; exact S.obj hi
  keep := fun i h h' ⟨⟨old, he⟩, hi, hne⟩ kp => ⟨⟨old, kp e List.mem_cons_self _ he⟩, S.at_ hi fun o q => kp it (List.mem_cons_of_mem _ List.mem_cons_self) o q, hne⟩
  item := by
    rintro X rfl rfl hK hc i pins s σ H E I hf ⟨⟨old, he⟩, hit, hne⟩ ⟨hq, hi⟩
    obtain ⟨its, rv, at1⟩ := S.inv hK I hq
    obtain ⟨x, hx⟩ : ∃ x, xs[i]? = some x := ⟨_, List.getElem?_eq_getElem hi⟩
    have hel : e < s.heap.objs.size := Heap.lt_size he
    have hil : it < s.heap.objs.size := by obtain ⟨o, q, _⟩ := S.obj hit; exact Heap.lt_size q
    have hs : i < its.toArray.size := by rw [List.size_toArray, ← rv.length]; exact hi
    have D := S.draw (A := X.A.in1) its.toArray (by rw [← I.ok.hd hc])
    refine wpAny_pyNext_enum_itemC D he ⟨hit, at1⟩ hs hne (fun z => ?_) fun u h' tk hu out st' hT hsz hk => ?_
    · rcases List.mem_cons.1 z with z | z
      · exact hne z
      · exact hae (List.mem_singleton.1 z).symm
    obtain ⟨u', hu', ru⟩ := rv.get hx
    have eu : u = u' := by rw [List.getElem?_toArray, hu'] at hu; exact (Option.some.inj hu).symm
    subst eu
    refine ⟨_, rfl, wpAny_letOwnedTupleGo_enum (s := { s with heap := h', toks := tk + 1 }) out fun h'' he' sb => ?_⟩
    have hT2 : h''.get? s.heap.objs.size = some { cls := .type "tuple", data := .seq #[.int (k + (i : Nat)) tk, u] } := (sb.2 _ (Nat.ne_of_gt hel)).trans hT
    have new : ObjOk X.prog X.w (upd H s.heap.objs.size (.tup [.int (k + (i : Nat)), x])) h'' s.heap.objs.size (.tup [.int (k + (i : Nat)), x]) := ⟨by show 2 ≤ sizeLine; decide, [.int (k + (i : Nat)) tk, u], .cons ⟨_, rfl⟩ (.cons ru .nil), ⟨_, hT2, rfl, _, rfl⟩⟩
    have I1 : Inv X pins σ (upd H s.heap.objs.size (.tup [.int (k + (i : Nat)), x])) { s with heap := h'', toks := tk + 1 } :=
      I.turnedNew (ch := [e, it]) (fun b ob hb q => (sb.2 b (fun z => hb (z ▸ List.mem_cons_self))).trans (hk b ob (fun z => hb (z ▸ List.mem_cons_self)) (fun z => hb (z ▸ List.mem_cons_of_mem _ List.mem_cons_self)) q)) hf (Nat.le_refl _) new
    refine ⟨.ref s.heap.objs.size, _, I1, rfl, ⟨_, x, rfl, I.hok.fresh (Nat.le_refl _), rfl, hx⟩, ⟨⟨u, ?_⟩, S.at_ st'.1 fun o q => (sb.2 it (Ne.symm hne)).trans q, hne⟩, fun b hb => ?_⟩
    · rw [show k + ((i + 1 : Nat) : Int) = k + (i : Nat) + 1 by omega]; exact he'
    · have lb : b < s.heap.objs.size := by
        rcases List.mem_cons.1 hb with z | z
        · rw [z]; exact hel
        · rw [List.mem_singleton.1 z]; exact hil
      rw [upd_ne (Nat.ne_of_lt lb)]
      exact (hf b hb).1
  done := by
    rintro X rfl rfl hK hc i pins s σ H E I hf ⟨⟨old, he⟩, hit, hne⟩ ⟨hq, rfl⟩
    obtain ⟨its, rv, at1⟩ := S.inv hK I hq
    obtain ⟨f0, f1, f2, f3, f4, f5⟩ := hf it (List.mem_cons_of_mem _ List.mem_cons_self)
    have D := S.draw (A := X.A.in1) its.toArray (by rw [← I.ok.hd hc])
    have hl : its.toArray.size = xs.length := by rw [List.size_toArray, ← rv.length]
    rw [hl] at D
    exact wpAny_pyNext_enum_endD D he ⟨hit, at1⟩ fun h' eb => ⟨rfl, I.turned (t' := s.toks) (fun b o hb q => eb b o hb q) f0 f1 f3 f4 f5⟩
  self := fun A i s Q E ⟨⟨_, he⟩, _⟩ h => wpAny_pyIter_enum he h
theorem seqK_list {P : Program} {w : World} {K : PySem.W.Frag} {a it : Addr} {xs : List V} (hne : a ≠ it) : SeqK P w K a it (fun H => SqL K H a xs) xs (fun i h => h.IsListIter it a i) (fun h items => h.IsList a items) where
  inv := fun hK I hq => by
    subst hK
    obtain ⟨its, rv, p, hz⟩ := I.list hq
    exact ⟨its, rv, p.isList⟩
  draw := fun items hh => Draws.list hh it a hne items
  at_ := fun hi q => hi.at q
  obj := fun ⟨o, ho, hc, hd⟩ => ⟨o, ho, fun v q => by rw [hd] at q; cases q⟩
  ne := hne
  there := fun ⟨o, ho, _⟩ => Heap.lt_size ho
theorem seqK_tup {P : Program} {w : World} {K : PySem.W.Frag} {a it : Addr} {xs : List V} (hne : a ≠ it) : SeqK P w K a it (fun H => SqT K H a xs) xs (fun i h => h.IsTupleIter it a i) (fun h items => h.IsTuple a items) where
  inv := fun hK I hq => by
    subst hK
    obtain ⟨its, rv, p, hz⟩ := I.tuple hq
    exact ⟨its, rv, p⟩
  draw := fun items hh => Draws.tuple hh it a hne items
  at_ := fun hi q => hi.at q
  obj := fun ⟨o, ho, hc, hd⟩ => ⟨o, ho, fun v q => by rw [hd] at q; cases q⟩
  ne := hne
  there := fun ⟨o, ho, _⟩ => Heap.lt_size ho
/-- enumerate(e), enumerate(e, k) -/
def iEnumG (K : PySem.W.Frag) (k : Int) (ta : TA) (ok : List V → V → Prop) : TI := fun σ H R => ta σ H fun vs H1 => ∃ a xs, ok vs (.ref a) ∧ ((SqL K H1 a xs ∧ R (Itn2 (fun H => SqL K H a xs) xs k) H1) ∨ (SqT K H1 a xs ∧ R (Itn2 (fun H => SqT K H a xs) xs k) H1))
section
variable {X : Cx} {e e2 : Expr} {ta : TA} {p pos tpos : Pos} {elts : List Expr} {kk : Nat}
theorem enum_done {pins : List (Addr × Obj)} {σ : L2.St} {H1 : Hp} {s1 : Shared} {R : It → Hp → Prop} {a : Addr} {xs : List V} {k : Int} {h' : Heap} {Sq : Hp → Prop} {ItA : Nat → Heap → Prop} {At : Heap → Array Value → Prop} (I1 : Inv X pins σ H1 s1) (la : a < s1.heap.objs.size) (he : IsEnum h' (s1.heap.objs.size + 1) s1.heap.objs.size k .none) (hk : ∀ b o, s1.heap.get? b = some o → h'.get? b = some o)
    (S : SeqK X.prog X.w X.K a s1.heap.objs.size Sq xs ItA At) (st : ItA 0 h') (q : R (Itn2 Sq xs k) H1) : wpAny (model X.prog X.w) X.A (pyIter (.ref (s1.heap.objs.size + 1))) (PIE X pins σ (.Tuple elts kk tpos) R) X.xe { s1 with heap := h' } := by
  refine wpAny_pyIter_enum he ⟨s1.heap.objs.size + 1, [s1.heap.objs.size + 1, s1.heap.objs.size], _, _, H1, rfl, I1.kept (t' := s1.toks) hk, turn_enumG (k := k) S (Nat.ne_of_lt (Nat.lt_succ_of_lt la)), ⟨⟨.none, ?_⟩, st, Nat.succ_ne_self _⟩, fun b hb => ?_, q⟩
  · rw [show k + ((0 : Nat) : Int) = k by omega]; exact he
  · have le : s1.heap.objs.size ≤ b := by
      rcases List.mem_cons.1 hb with z | z
      · rw [z]; exact Nat.le_succ _
      · rw [List.mem_singleton.1 z]; exact Nat.le_refl _
    exact I1.fpOk le (I1.hok.fresh le)
theorem pi_enumG (hg : L2.Gl X "enumerate") (hm : X.mg "enumerate" = none) (ha : PA X [e] ta) (hs : starEach [e] X.env = [(false, eval e X.env)] := by rfl) :
    PI X (.Tuple elts kk tpos) (.Call (.Name "enumerate" p) [e] [] pos) (iEnumG X.K 0 ta fun vs r => vs = [r]) := by
  refine ⟨fun pins s σ H R I h => Call_ (ld_blt I hg hm boot_enumerate (PyProof.Rows.callWith_type1 (thn (ha.run pos pins s σ H _ I h) fun us s1 ⟨vs, H1, I1, r1, a, xs, ex, q1⟩ => ?_) hs rfl))⟩
  subst ex
  rw [Vals.ref1 r1]
  rcases q1 with ⟨hq, q⟩ | ⟨hq, q⟩
  · obtain ⟨its, rv, p', hz⟩ := I1.list hq
    have la : a < s1.heap.objs.size := by obtain ⟨o, ho, _⟩ := p'.isList; exact Heap.lt_size ho
    exact enum_begin1 (begins_list a _) p'.isList fun h' he hit hk => enum_done I1 la he hk (seqK_list (Nat.ne_of_lt la)) ⟨_, hit, rfl, rfl⟩ q
  · obtain ⟨its, rv, p', hz⟩ := I1.tuple hq
    have la : a < s1.heap.objs.size := by obtain ⟨o, ho, _⟩ := p'; exact Heap.lt_size ho
    exact enum_begin1 (begins_tuple a _) p' fun h' he hit hk => enum_done I1 la he hk (seqK_tup (Nat.ne_of_lt la)) ⟨_, hit, rfl, rfl⟩ q
theorem pi_enumK (k : Int) (hg : L2.Gl X "enumerate") (hm : X.mg "enumerate" = none) (ha : PA X [e, e2] ta) (hk0 : -(2 ^ 63) ≤ k) (hk1 : k < 2 ^ 63) (hs : starEach [e, e2] X.env = (false, eval e X.env) :: starEach [e2] X.env := by rfl) (hp : (backTo pos (starEach [e2] X.env)).any (·.1) = false := by rfl) :
    PI X (.Tuple elts kk tpos) (.Call (.Name "enumerate" p) [e, e2] [] pos) (iEnumG X.K k ta fun vs r => vs = [r, .int k]) := by
  refine ⟨fun pins s σ H R I h => Call_ (ld_blt I hg hm boot_enumerate (PyProof.Rows.callWith_type1 (thn (ha.run pos pins s σ H _ I h) fun us s1 ⟨vs, H1, I1, r1, a, xs, ex, q1⟩ => ?_) hs hp))⟩
  subst ex
  cases r1 with
  | cons ra rr =>
    cases rr with
    | cons rk rr =>
      cases rr
      cases ra
      obtain ⟨t, rfl⟩ := rk
      rcases q1 with ⟨hq, q⟩ | ⟨hq, q⟩
      · obtain ⟨its, rv, p', hz⟩ := I1.list hq
        have la : a < s1.heap.objs.size := by obtain ⟨o, ho, _⟩ := p'.isList; exact Heap.lt_size ho
        exact enum_begins (begins_list a _) p'.isList hk0 hk1 fun h' he hit _ hk => enum_done I1 la he hk (seqK_list (Nat.ne_of_lt la)) ⟨_, hit, rfl, rfl⟩ q
      · obtain ⟨its, rv, p', hz⟩ := I1.tuple hq
        have la : a < s1.heap.objs.size := by obtain ⟨o, ho, _⟩ := p'; exact Heap.lt_size ho
        exact enum_begins (begins_tuple a _) p' hk0 hk1 fun h' he hit _ hk => enum_done I1 la he hk (seqK_tup (Nat.ne_of_lt la)) ⟨_, hit, rfl, rfl⟩ q
end
/-! over plain data -/
def enumDk (k : Int) (ds : List D) : List D := ds.zipIdx.map fun p => D.tup [.int (k + (p.2 : Nat)), p.1]
theorem enumDk_zero (ds : List D) : enumDk 0 ds = enumD ds := by
  unfold enumDk enumD
  exact List.map_congr_left fun p _ => by rw [Int.zero_add]
def enumA (fs : Rho → R (List VD)) : Rho → R (List D) := fun ρ => (fs ρ).bind fun vs ρ1 => match vs with
  | [.d (.lst ds)] => .ok (enumD ds) ρ1
  | [.d (.tup ds)] => .ok (enumD ds) ρ1
  | [.sl i] => (match ρ1[i]? with | some (.m xs) => .ok (enumD xs) (ρ1.set i (.d (.lst xs))) | _ => .bad)
  | _ => .bad
def enumK (k : Int) (fs : Rho → R (List VD)) : Rho → R (List D) := fun ρ => (fs ρ).bind fun vs ρ1 => match vs with
  | [.d (.lst ds), .d (.int j)] => if j = k then .ok (enumDk k ds) ρ1 else .bad
  | [.d (.tup ds), .d (.int j)] => if j = k then .ok (enumDk k ds) ρ1 else .bad
  | _ => .bad
section
variable {K : PySem.W.Frag} {T : Tb} {S : Hp}
theorem wk_enumG {Sq : Hp → Prop} {ds : List D} {vs : List V} {k : Int} (hs : ∀ S1 H1, Same S S1 → Same S1 H1 → Sq H1) (r : Rps K T S ds vs) : Wk K T S (enumDk k ds) (Itn2 Sq vs k) := fun S1 H1 e1 e2 i => by
  unfold enumDk
  refine ⟨fun d hd => ?_, fun hl => ?_⟩
  · rw [List.getElem?_map] at hd
    cases q : ds.zipIdx[i]? with
    | none => rw [q] at hd; cases hd
    | some p =>
      rw [q] at hd
      rw [List.getElem?_zipIdx] at q
      cases q2 : ds[i]? with
      | none => rw [q2] at q; cases q
      | some d0 =>
        rw [q2] at q
        have hp : (d0, 0 + i) = p := Option.some.inj q
        subst hp
        have hd' : D.tup [.int (k + ((0 + i : Nat) : Int)), d0] = d := Option.some.inj hd
        subst hd'
        obtain ⟨v, hv, rv⟩ := r.get q2
        refine ⟨⟨hs S1 H1 e1 e2, (List.getElem?_eq_some_iff.mp hv).1⟩, fun x H2 hy => ?_⟩
        obtain ⟨t, x0, rfl, ht, rfl, hx⟩ := hy
        rw [hv] at hx; cases hx
        have sn := same_new (o := .tup [.int (k + (i : Nat)), v]) (e2.free ht)
        refine ⟨upd S1 t (.tup [.int (k + (i : Nat)), v]), Ext.new e2 ht, t, [.int (k + (i : Nat)), v], rfl, SqT.of upd_same, _, _, rfl, ?_, _, _, rfl, Rp.mono sn _ _ (Rp.mono e1 _ _ rv), rfl⟩
        show V.int _ = V.int _
        rw [Nat.zero_add]
  · refine ⟨hs S1 H1 e1 e2, ?_⟩
    rw [hl, List.length_map, List.length_zipIdx, r.len]
end
section
variable {X : Cx} {T : Tb} {W : WX} {e e2 : Expr} {fs : Rho → R (List VD)} {p pos tpos : Pos} {elts : List Expr} {kk : Nat}
theorem seqG_of {K : PySem.W.Frag} {β : Bt} {G S1 H1 : Hp} {σ : L2.St} {ρ1 : Rho} {k : Int} {x : D} {ds : List D} {u : V} {Q : It → Hp → Prop} (o1 : Ok K T β G S1 σ ρ1 H1) (hx : Rp K T S1 x u) (hi : x.items? = some ds) (p1 : ∀ S' H' J, Same S1 S' → Ok K T β G S' σ ρ1 H' → Wk K T S' (enumDk k ds) J → Q J H') :
    ∃ a xs, u = .ref a ∧ ((SqL K H1 a xs ∧ Q (Itn2 (fun H => SqL K H a xs) xs k) H1) ∨ (SqT K H1 a xs ∧ Q (Itn2 (fun H => SqT K H a xs) xs k) H1)) := by
  cases x with
  | lst ys =>
    cases hi
    obtain ⟨a, vs, rfl, q, r⟩ := hx
    exact ⟨a, vs, rfl, .inl ⟨SqL.of (o1.sh _ _ q), p1 S1 H1 _ (Same.refl _) o1 (wk_enumG (fun S2 H2 a1 a2 => SqL.of (a2 _ _ (a1 _ _ q))) r)⟩⟩
  | tup ys =>
    cases hi
    obtain ⟨a, vs, rfl, q, r⟩ := hx
    exact ⟨a, vs, rfl, .inr ⟨same_tup o1.sh q, p1 S1 H1 _ (Same.refl _) o1 (wk_enumG (fun S2 H2 a1 a2 => same_tup a2 (same_tup a1 q)) r)⟩⟩
  | _ => cases hi
theorem xi_enumA (hm : X.mg "enumerate" = none) (ha : XA X T W [e] fs) (hg : L2.Gl X "enumerate" := by rfl) (hs : starEach [e] X.env = [(false, eval e X.env)] := by rfl) : XI X T W (.Tuple elts kk tpos) (.Call (.Name "enumerate" p) [e] [] pos) (enumA fs) := (pi_enumG hg hm ha hs).impQ fun σ H Q h => by
  obtain ⟨β, G, S, ρ, o, p⟩ := h
  refine ⟨β, G, S, ρ, o, PostI.thn (Rl := RpVs X.K T σ) p fun S1 H1 ρ1 v u e1 o1 h1 p1 => ?_⟩
  have go : ∀ {x : D} {ds : List D}, x.items? = some ds → RpVs X.K T σ S1 [.d x] u → PostI X.K T W β G S1 σ (.ok (enumD ds) ρ1) Q → ∃ a xs, u = [.ref a] ∧ ((SqL X.K H1 a xs ∧ Q (Itn2 (fun H => SqL X.K H a xs) xs 0) H1) ∨ (SqT X.K H1 a xs ∧ Q (Itn2 (fun H => SqT X.K H a xs) xs 0) H1)) := fun {x ds} hi h1 p1 => by
    obtain ⟨z, rfl, hz⟩ := h1.one
    obtain ⟨a, xs, rfl, q⟩ := seqG_of (k := 0) (Q := Q) o1 hz hi fun S' H' J e o wk => p1 S' H' J e o (by rw [enumDk_zero] at wk; exact wk)
    exact ⟨a, xs, rfl, q⟩
  split at p1
  · exact go rfl h1 p1
  · exact go rfl h1 p1
  · rename_i i
    split at p1
    · rename_i xs q
      obtain ⟨z, rfl, hz⟩ := h1.one
      obtain ⟨a, vs, e2, e3, e4, r, o2⟩ := o1.frzSlot q
      have : σ[i]? = some (some z) := hz
      rw [e2] at this; cases this
      refine ⟨a, vs, rfl, .inl ⟨SqL.of e3, p1 _ H1 _ (same_new e4) o2 ?_⟩⟩
      rw [← enumDk_zero]
      exact wk_enumG (fun S2 H2 a1 a2 => SqL.of (a2 _ _ (a1 _ _ upd_same))) (Rps.mono (same_new e4) _ _ r)
    · exact p1.elim
  · exact p1.elim
theorem xi_enumK (k : Int) (hk0 : -(2 ^ 63) ≤ k) (hk1 : k < 2 ^ 63) (hm : X.mg "enumerate" = none) (ha : XA X T W [e, e2] fs) (hg : L2.Gl X "enumerate" := by rfl) (hs : starEach [e, e2] X.env = (false, eval e X.env) :: starEach [e2] X.env := by rfl) (hp : (backTo pos (starEach [e2] X.env)).any (·.1) = false := by rfl) : XI X T W (.Tuple elts kk tpos) (.Call (.Name "enumerate" p) [e, e2] [] pos) (enumK k fs) := (pi_enumK k hg hm ha hk0 hk1 hs hp).impQ fun σ H Q h => by
  obtain ⟨β, G, S, ρ, o, p⟩ := h
  refine ⟨β, G, S, ρ, o, PostI.thn (Rl := RpVs X.K T σ) p fun S1 H1 ρ1 v u e1 o1 h1 p1 => ?_⟩
  split at p1
  · rename_i ds j
    split at p1
    · rename_i hj
      subst hj
      obtain ⟨z, y, rfl, hz, hy⟩ := h1.two
      obtain rfl : y = .int j := hy
      obtain ⟨a, xs, rfl, q⟩ := seqG_of (k := j) (Q := Q) (x := .lst ds) o1 hz rfl p1
      exact ⟨a, xs, rfl, q⟩
    · exact p1.elim
  · rename_i ds j
    split at p1
    · rename_i hj
      subst hj
      obtain ⟨z, y, rfl, hz, hy⟩ := h1.two
      obtain rfl : y = .int j := hy
      obtain ⟨a, xs, rfl, q⟩ := seqG_of (k := j) (Q := Q) (x := .tup ds) o1 hz rfl p1
      exact ⟨a, xs, rfl, q⟩
    · exact p1.elim
  · exact p1.elim
end
end Lq
namespace Lq
open PySem PySem.Spec PyProof.Rows L2 PySem.W
/-! ### which class is under which: by the text's own facts -/
theorem kit_ref2 {K : Frag} {t : Value} {C : Addr} {b : Bool} (hd : hasDictIn K C = true) (ht : typeIn K (.ref C) = some (.type "type")) (hs : subIn K (.ref C) (.ref C) = some true) (h : subIn K t (.ref C) = some b) : kitOne K t (.ref C) = some b := by
  unfold kitOne
  by_cases e : (t == .ref C) = true
  · rw [if_pos e]
    have e' : t = .ref C := eq_of_beq e
    rw [e', hs] at h
    exact h
  · rw [if_neg e]
    obtain ⟨cd, hc, _⟩ := any_some hd
    have e2 : ((clsIn K C).isSome && typeIn K (.ref C) == some (.type "type")) = true := by rw [hc, ht] <;> rfl
    show (if ((clsIn K C).isSome && typeIn K (.ref C) == some (.type "type")) = true then subIn K t (.ref C) else none) = some b
    rw [if_pos e2]
    exact h
end Lq
namespace Lq
open PySem
/-! ### comprehensions, loops, tests: plain laws -/
theorem wipeR_get_out {ρ : Rho} : ∀ {vs : List Nat} {v : Nat}, v ∉ vs → (wipeR ρ vs)[v]? = ρ[v]?
  | [], _, _ => rfl
  | w :: vs, v, h => by
    unfold wipeR
    simp only [List.mem_cons, not_or] at h
    rw [List.getElem?_set_ne (Ne.symm h.1)]
    exact wipeR_get_out h.2
theorem back_wipe {ρ : Rho} : ∀ vs : List Nat, backR ρ (wipeR ρ vs) vs = ρ := fun vs => by
  apply List.ext_getElem?
  intro i
  by_cases hi : i ∈ vs
  · by_cases hl : i < ρ.length
    · rw [backR_in hi (by rw [wipeR_len]; exact hl), List.getD_eq_getElem?_getD, List.getElem?_eq_getElem hl]; rfl
    · rw [List.getElem?_eq_none (by rw [backR_len, wipeR_len]; omega), List.getElem?_eq_none (by omega)]
  · rw [backR_out hi, wipeR_get_out hi]
theorem compL_st {vs : List Nat} {gd : D → Rho → Option Rho} {ft : Rho → R Bool} {fe : Rho → R VD} (I : Nat → List D → Rho → Prop) : ∀ (ds : List D) (k : Nat) (acc : List D) (ρ : Rho), I k acc ρ →
    (∀ j d acc ρ, ds[j]? = some d → I (k + j) acc ρ → ∃ acc' ρ1, compTurn gd ft fe acc d ρ = .ok acc' ρ1 ∧ I (k + j + 1) acc' (wipeR ρ1 vs)) → ∃ acc' ρ', compLoop vs gd ft fe acc ds ρ = .ok acc' ρ' ∧ I (k + ds.length) acc' ρ'
  | [], k, acc, ρ, hi, _ => ⟨acc, ρ, rfl, hi⟩
  | d :: ds, k, acc, ρ, hi, h => by
    obtain ⟨a1, ρ1, e1, h1⟩ := h 0 d acc ρ rfl hi
    obtain ⟨a2, ρ2, e2, h2⟩ := compL_st I ds (k + 1) a1 _ h1 fun j d' a' ρ' hj hi' => by
      obtain ⟨a3, ρ3, e3, h3⟩ := h (j + 1) d' a' ρ' hj (by rw [show k + (j + 1) = k + 1 + j by omega]; exact hi')
      exact ⟨a3, ρ3, e3, by rw [show k + 1 + j + 1 = k + (j + 1) + 1 by omega]; exact h3⟩
    refine ⟨a2, ρ2, ?_, by rw [List.length_cons, show k + (ds.length + 1) = k + 1 + ds.length by omega]; exact h2⟩
    rw [compLoop, e1]
    exact e2
/-- a comprehension that changes a state (draws) -/
theorem compF_st {vs : List Nat} {fi : Rho → R (List D)} {gd : D → Rho → Option Rho} {ft : Rho → R Bool} {fe : Rho → R VD} {ρ ρ0 : Rho} {ds : List D} (I : Nat → List D → Rho → Prop) (hi : fi ρ = .ok ds ρ0) (hp : (vs.all fun v => plainC (ρ0.getD v .no)) = true) (h0 : I 0 [] (wipeR ρ0 vs))
    (h : ∀ j d acc ρ, ds[j]? = some d → I j acc ρ → ∃ acc' ρ1, compTurn gd ft fe acc d ρ = .ok acc' ρ1 ∧ I (j + 1) acc' (wipeR ρ1 vs)) : ∃ acc ρ', compF vs fi gd ft fe ρ = .ok acc (backR ρ0 ρ' vs) ∧ I ds.length acc ρ' := by
  obtain ⟨acc, ρ', e, h2⟩ := compL_st (vs := vs) (gd := gd) (ft := ft) (fe := fe) I ds 0 [] _ h0 fun j d a ρ hj hI => by
    rw [Nat.zero_add] at hI ⊢; exact h j d a ρ hj hI
  rw [Nat.zero_add] at h2
  refine ⟨acc, ρ', ?_, h2⟩
  simp only [Lq.compF, hi, R.bind, hp, e, if_true]
/-- .. that changes nothing: what passes the test, mapped -/
theorem compF_fm {vs : List Nat} {fi : Rho → R (List D)} {gd : D → Rho → Option Rho} {ft : Rho → R Bool} {fe : Rho → R VD} {ρ ρ0 : Rho} {ds : List D} (p : D → Bool) (g : D → D) (hi : fi ρ = .ok ds ρ0) (hp : (vs.all fun v => plainC (ρ0.getD v .no)) = true) (hl : ds.length ≤ 1000000)
    (h : ∀ d ∈ ds, ∃ ρ1, gd d (wipeR ρ0 vs) = some ρ1 ∧ ft ρ1 = .ok (p d) ρ1 ∧ (p d = true → fe ρ1 = .ok (.d (g d)) ρ1) ∧ wipeR ρ1 vs = wipeR ρ0 vs) : compF vs fi gd ft fe ρ = .ok ((ds.filter p).map g) ρ0 := by
  have e := comp_all (vs := vs) (gd := gd) (ft := ft) (fe := fe) (g := fun d => if p d then [g d] else []) (ρ := wipeR ρ0 vs) ds [] (fun d hd => ⟨by split <;> simp, fun acc ha => by
    obtain ⟨ρ1, e1, e2, e3, e4⟩ := h d hd
    refine ⟨ρ1, ?_, e4⟩
    cases hpd : p d with
    | true => simp only [Lq.compTurn, e1, e2, hpd, R.bind, e3 hpd, if_true, fits_of ha]
    | false => simp [Lq.compTurn, e1, e2, hpd, R.bind]⟩) (by rw [List.length_nil]; omega)
  rw [List.nil_append, flatMap_if] at e
  simp only [Lq.compF, hi, R.bind, hp, e, if_true, back_wipe]
theorem compF_m {vs : List Nat} {fi : Rho → R (List D)} {gd : D → Rho → Option Rho} {fe : Rho → R VD} {ρ ρ0 : Rho} {ds : List D} (g : D → D) (hi : fi ρ = .ok ds ρ0) (hp : (vs.all fun v => plainC (ρ0.getD v .no)) = true) (hl : ds.length ≤ 1000000)
    (h : ∀ d ∈ ds, ∃ ρ1, gd d (wipeR ρ0 vs) = some ρ1 ∧ fe ρ1 = .ok (.d (g d)) ρ1 ∧ wipeR ρ1 vs = wipeR ρ0 vs) : compF vs fi gd yesT fe ρ = .ok (ds.map g) ρ0 := by
  have e := compF_fm (vs := vs) (fi := fi) (gd := gd) (ft := yesT) (fe := fe) (ρ := ρ) (ρ0 := ρ0) (ds := ds) (fun _ => true) g hi hp hl fun d hd => by
    obtain ⟨ρ1, h1, h2, h3⟩ := h d hd
    exact ⟨ρ1, h1, rfl, fun _ => h2, h3⟩
  rw [e, List.filter_eq_self.2 fun _ _ => rfl]
/-- a loop goes through its first items -/
theorem loop_pre {body : D → Rho → O} (I : Nat → Rho → Prop) (l2 : List D) : ∀ (l1 : List D) (k : Nat) (ρ : Rho), I k ρ → (∀ (j : Nat) (d : D) (ρ : Rho), l1[j]? = some d → I (k + j) ρ → ∃ ρ1, (body d ρ = .nx ρ1 ∨ body d ρ = .ct ρ1) ∧ I (k + j + 1) ρ1) →
    ∃ ρ', loopS body (l1 ++ l2) ρ = loopS body l2 ρ' ∧ I (k + l1.length) ρ'
  | [], k, ρ, hi, _ => ⟨ρ, rfl, hi⟩
  | d :: ds, k, ρ, hi, h => by
    obtain ⟨ρ1, e1, h1⟩ := h 0 d ρ rfl hi
    obtain ⟨ρ2, e2, h2⟩ := loop_pre I l2 ds (k + 1) ρ1 h1 (fun j d' ρ' hj hi' => by
      obtain ⟨ρ3, e3, h3⟩ := h (j + 1) d' ρ' hj (by rw [show k + (j + 1) = k + 1 + j by omega]; exact hi')
      exact ⟨ρ3, e3, by rw [show k + 1 + j + 1 = k + (j + 1) + 1 by omega]; exact h3⟩)
    refine ⟨ρ2, ?_, by rw [List.length_cons, show k + (ds.length + 1) = k + 1 + ds.length by omega]; exact h2⟩
    rw [List.cons_append, loopS]
    rcases e1 with e1 | e1 <;> (rw [e1]; exact e2)
theorem add_tup {a b : List D} (h : a.length + b.length ≤ 1000000) : addD (.tup a) (.tup b) = some (.tup (a ++ b)) := by
  simp [addD, fits_of h]
theorem add_lst {a b : List D} (h : a.length + b.length ≤ 1000000) : addD (.lst a) (.lst b) = some (.lst (a ++ b)) := by
  simp [addD, fits_of h]
/-! ### names -/
def onS (q : Str → Bool) : D → Bool := fun d => match d with | .str w => q w | _ => false
theorem filter_onS (q : Str → Bool) (ws : List Str) : ((ws.map D.str).filter (onS q)) = (ws.filter q).map D.str := by
  rw [List.filter_map]; rfl
theorem strs_at {ws : List Str} {j : Nat} {d : D} (h : (ws.map D.str)[j]? = some d) : ∃ w, ws[j]? = some w ∧ d = .str w := by
  rw [List.getElem?_map] at h
  cases q : ws[j]? with
  | none => rw [q] at h; cases h
  | some w => rw [q] at h; exact ⟨w, rfl, (Option.some.inj h).symm⟩
theorem enum_strs (ws : List Str) : enumD (ws.map D.str) = ws.zipIdx.map fun p => D.tup [.int (p.2 : Nat), .str p.1] := by
  unfold enumD
  rw [List.zipIdx_map, List.map_map]; rfl
theorem flat_strs (ws : List Str) : ((ws.map D.str).all D.flat) = true := List.all_eq_true.2 fun d hd => by
  obtain ⟨w, _, rfl⟩ := List.mem_map.1 hd
  rfl
theorem anyEq_strs (w : Str) (ws : List Str) : anyEq (.str w) (ws.map D.str) = decide (w ∈ ws) := by
  unfold anyEq
  rw [List.any_map]
  by_cases h : w ∈ ws
  · rw [decide_eq_true h, List.any_eq_true]
    exact ⟨w, h, by simp [deq]⟩
  · rw [decide_eq_false h, List.any_eq_false]
    intro x hx
    simp [deq]
    exact fun e => h (e ▸ hx)
theorem in_strs {x : D} {ws : List Str} (hx : x.items? = some (ws.map D.str)) (w : Str) : inD (.str w) x = some (.bl (decide (w ∈ ws))) := by
  cases x with
  | lst ys => cases hx; simp [inD, D.flat, flat_strs, anyEq_strs]
  | tup ys => cases hx; simp [inD, D.flat, flat_strs, anyEq_strs]
  | _ => cases hx
theorem nin_strs {x : D} {ws : List Str} (hx : x.items? = some (ws.map D.str)) (w : Str) : ninD (.str w) x = some (.bl (!decide (w ∈ ws))) := by
  cases x with
  | lst ys => cases hx; simp [ninD, D.flat, flat_strs, anyEq_strs]
  | tup ys => cases hx; simp [ninD, D.flat, flat_strs, anyEq_strs]
  | _ => cases hx
theorem items_len {x : D} {xs : List D} (hx : x.items? = some xs) : lenD [x] = some (.int xs.length) := by
  cases x with
  | lst ys => cases hx; rfl
  | tup ys => cases hx; rfl
  | _ => cases hx
theorem items_of {x : D} {xs : List D} (hx : x.items? = some xs) : itemsOf x = some xs := by
  cases x with
  | lst ys => cases hx; rfl
  | tup ys => cases hx; rfl
  | _ => cases hx
theorem items_tuple {x : D} {xs : List D} (hx : x.items? = some xs) : tupleD [x] = some (.tup xs) := by
  cases x with
  | lst ys => cases hx; rfl
  | tup ys => cases hx; rfl
  | _ => cases hx
theorem items_list {x : D} {xs : List D} (hx : x.items? = some xs) : listF [x] = some xs := by
  cases x with
  | lst ys => cases hx; rfl
  | tup ys => cases hx; rfl
  | _ => cases hx
theorem items_seq {x : D} {xs : List D} {i : Nat} {ρ : Rho} (hx : x.items? = some xs) (h : ρ[i]? = some (.d x)) : seqI (nameE i) ρ = .ok xs ρ := by
  simp only [seqI, nameE, h, R.bind, items_of hx]
theorem items_enum {x : D} {xs : List D} {i : Nat} {ρ : Rho} (hx : x.items? = some xs) (h : ρ[i]? = some (.d x)) : enumA (consA (nameE i) nilA) ρ = .ok (enumD xs) ρ := by
  cases x with
  | lst ys => cases hx; simp [enumA, consA, nilA, nameE, h, R.bind]
  | tup ys => cases hx; simp [enumA, consA, nilA, nameE, h, R.bind]
  | _ => cases hx
theorem keysD_eq (x : D) : keysD x = (x.items?.bind fun xs => if Nat.ble xs.length 1000 then (match allOf D.int? xs with | some ns => some (.inl ns) | none => (match allOf D.str? xs with | some ws => some (.inr ws) | none => none)) else none) := by
  unfold keysD
  cases x.items? <;> rfl
theorem strs_int (w : Str) (r : List Str) : allOf D.int? (List.map D.str (w :: r)) = none := rfl
theorem items_keys {x : D} {ws : List Str} (hx : x.items? = some (ws.map D.str)) (hl : ws.length ≤ 1000) : keysD x = some (if ws = [] then .inl [] else .inr ws) := by
  have h1 : Nat.ble (ws.map D.str).length 1000 = true := Nat.ble_eq_true_of_le (by rw [List.length_map]; exact hl)
  rw [keysD_eq, hx, Option.bind_some, if_pos h1]
  cases ws with
  | nil => rfl
  | cons w r => rw [strs_int, allOf_map_str]; simp
theorem items_lenSet {x : D} {ws : List Str} (hx : x.items? = some (ws.map D.str)) (hl : ws.length ≤ 1000) : lenSetD [x] = some (.int (uniq ws).length) := by
  have e : lenSetD [x] = (match keysD x with | some (.inl ns) => some (.int ((uniq ns).length : Nat)) | some (.inr ws) => some (.int ((uniq ws).length : Nat)) | none => none) := rfl
  rw [e, items_keys hx hl]
  cases ws <;> rfl
theorem items_sortSet {x : D} {ws : List Str} (hx : x.items? = some (ws.map D.str)) (hl : ws.length ≤ 1000) : sortSetF [x] = some ((setS ws).map D.str) := by
  have e : sortSetF [x] = (match keysD x with | some (.inl ns) => some ((setI ns).map D.int) | some (.inr ws) => some ((setS ws).map D.str) | none => none) := rfl
  rw [e, items_keys hx hl]
  cases ws <;> rfl
theorem items_sorted {x : D} {ws : List Str} (hx : x.items? = some (ws.map D.str)) : sortedF [x] = some ((sortStrs ws).map D.str) := by
  have e : sortedF [x] = (match x.items? with | some xs => sortDs xs | none => none) := rfl
  rw [e, hx]
  show sortDs _ = _
  unfold sortDs
  cases ws with
  | nil => rfl
  | cons w r => rw [strs_int, allOf_map_str]
theorem ltS_irrefl (w : Str) : ¬ LtS w w := List.lt_irrefl _
theorem LtS.trans {x y z : Str} (h1 : LtS x y) (h2 : LtS y z) : LtS x z := List.lt_trans h1 h2
theorem LtS.asymm {x y : Str} (h1 : LtS x y) (h2 : LtS y x) : False := List.lt_asymm h1 h2
instance (x y : Str) : Decidable (LtS x y) := inferInstanceAs (Decidable (x.cps.toList < y.cps.toList))
/-- rising, neighbour by neighbour -/
def rising : List Str → Bool
  | x :: y :: r => decide (LtS x y) && rising (y :: r)
  | _ => true
theorem rising_pw : ∀ {ws : List Str}, rising ws = true ↔ ws.Pairwise LtS
  | [] => by simp [rising]
  | [x] => by simp [rising]
  | x :: y :: r => by
    rw [rising, Bool.and_eq_true, decide_eq_true_eq, rising_pw, List.pairwise_cons (a := x)]
    constructor
    · rintro ⟨h1, h2⟩
      refine ⟨fun z hz => ?_, h2⟩
      rcases List.mem_cons.1 hz with rfl | hz
      · exact h1
      · exact h1.trans ((List.pairwise_cons.1 h2).1 z hz)
    · rintro ⟨h1, h2⟩
      exact ⟨h1 y List.mem_cons_self, h2⟩
theorem pw_nodup : ∀ {ws : List Str}, ws.Pairwise LtS → ws.Nodup
  | [], _ => List.nodup_nil
  | w :: r, h => by
    obtain ⟨h1, h2⟩ := List.pairwise_cons.1 h
    exact List.nodup_cons.2 ⟨fun hw => ltS_irrefl w (h1 w hw), pw_nodup h2⟩
theorem sort_id {ws : List Str} (h : ws.Pairwise LtS) : sortStrs ws = ws := uniq_strs (sortStrs_perm ws) (sortStrs_sorted ws) (h.imp fun h z => LtS.asymm h z)
theorem pw_ext {a b : List Str} (ha : a.Pairwise LtS) (hb : b.Pairwise LtS) (h : ∀ w, w ∈ a ↔ w ∈ b) : a = b := by
  have p : a.Perm b := (List.perm_ext_iff_of_nodup (pw_nodup ha) (pw_nodup hb)).2 h
  rw [← sort_id ha, ← sort_id hb]
  exact uniq_strs (((sortStrs_perm a).trans p).trans (sortStrs_perm b).symm) (sortStrs_sorted _) (sortStrs_sorted _)
end Lq
namespace Lq
open PySem PySem.Spec PyProof.Rows L2
/-! ### an instance with slots is made -/
structure ExtI (a dx : Addr) (S H S' H' : Hp) : Prop where
  s : Same S S'
  h : ∀ b o, b ≠ a → b ≠ dx → H b = some o → H' b = some o
  sh : Same S' H'
  fr : ∀ b o, b ≠ a → b ≠ dx → H b = some o → S' b = S b
def GvI (K : PySem.W.Frag) (T : Tb) (t : Nat) (a dx : Addr) (S H : Hp) (r : Res) (Q : VK) (E : L2.XK) : Prop := match r with
  | .ok (.obj t' fs) => t' = t ∧ ∀ S' H' vs, ExtI a dx S H S' H' → OB T S' t a vs → Rps K T S' fs vs → Q .non H'
  | .err x => ∀ S' H' c d, ExtI a dx S H S' H' → XR K T S' x c d → E c d H'
  | _ => False
/-- what an __init__ is given: the new instance a, its dict dx, plain data -/
def spI (K : PySem.W.Frag) (T : Tb) (t n : Nat) (F : List D → Res) : Sp := fun vs H Q E => ∃ S a dx ws ds, vs = .ref a :: ws ∧ Same S H ∧ S a = none ∧ S dx = none ∧ dx ≠ a ∧ H a = some (.ins (T t) dx []) ∧ H dx = some (.own a) ∧ Rps K T S ds ws ∧ ds.length = n ∧ GvI K T t a dx S H (F ds) Q E
theorem spP_make {K : PySem.W.Frag} {T : Tb} {t n : Nat} {F : List D → Res} (hF : ∀ ds d, F ds = .ok d → ∃ fs, d = .obj t fs) {vs : List V} {H : Hp} {Q : VK} {E : L2.XK} (h : spP K T n F vs H Q E) (x dx : Addr) (hx : H x = none) (hd : H dx = none) (hne : dx ≠ x) :
    spI K T t n F (.ref x :: vs) (upd (upd H dx (.own x)) x (.ins (T t) dx [])) (fun v H2 => v = .non ∧ Q (.ref x) H2) E := by
  obtain ⟨S, ds, e, r, hl, p⟩ := h
  have ex : ∀ {S' H'}, ExtI x dx S (upd (upd H dx (.own x)) x (.ins (T t) dx [])) S' H' → Ext S H S' H' := fun {S' H'} z => {
    s := z.s
    h := fun b o q => z.h b o (ne_of_none q hx) (ne_of_none q hd) (by rw [upd_ne (ne_of_none q hx), upd_ne (ne_of_none q hd)]; exact q)
    sh := z.sh
    fr := fun b o q => z.fr b o (ne_of_none q hx) (ne_of_none q hd) (by rw [upd_ne (ne_of_none q hx), upd_ne (ne_of_none q hd)]; exact q) }
  refine ⟨S, x, dx, vs, ds, rfl, (e.trans (same_new hd)).trans (same_new (by rw [upd_ne (Ne.symm hne)]; exact hx)), e.free hx, e.free hd, hne, upd_same, by rw [upd_ne hne, upd_same], r, hl, ?_⟩
  cases hF' : F ds with
  | ok d =>
    obtain ⟨fs, rfl⟩ := hF ds d hF'
    rw [hF'] at p
    exact ⟨rfl, fun S' H' ws z ob rf => ⟨rfl, p S' H' (.ref x) (ex z) ⟨x, ws, rfl, ob, rf⟩⟩⟩
  | err y =>
    rw [hF'] at p
    exact fun S' H' c d z xr => p S' H' c d (ex z) xr
  | bad => rw [hF'] at p; exact p.elim
section
variable {X : Cx} {C f : Addr} {k : Nat} {fd : FuncData} {ps : List Str} {sp : Sp} {E : L2.St → L2.XK} {x : Str} {p pos : Pos} {e : Expr} {es : List Expr} {t : TA}
def tMakeS (C : Addr) (sp : Sp) (E : L2.St → L2.XK) (t : TA) : TE := fun σ H Q => t σ H fun vs H1 => ∀ x dx, H1 x = none → H1 dx = none → dx ≠ x → sp (.ref x :: vs) (upd (upd H1 dx (.own x)) x (.ins C dx [])) (fun v H2 => v = .non ∧ Q (.ref x) H2) (E σ)
theorem made_run {pins : List (Addr × Obj)} {σ : L2.St} {H : Hp} {s : Shared} {Q : VK} {us : List Value} {vs : List V} (M : Mk X.K C f) (F : FnOk X.prog X.w X.K X.mg X.base (L2.CX X.prog X.w) k f fd ps sp) (hr : Room (k + 1) X.A) (hb : Binds X.K fd ps [])
    (hx : PassesAt (L2.CX X.prog X.w) X σ (E σ)) (I : Inv X pins σ H s) (r : Vals vs us) (h : ∀ x dx, H x = none → H dx = none → dx ≠ x → sp (.ref x :: vs) (upd (upd H dx (.own x)) x (.ins C dx [])) (fun v H2 => v = .non ∧ Q (.ref x) H2) (E σ)) :
    wpAny (model X.prog X.w) X.A (call (.ref C) us) (EP X pins σ Q) X.xe s := by
  have go := h (s.heap.objs.size + 1) s.heap.objs.size (I.hok.fresh (Nat.le_succ _)) (I.hok.fresh (Nat.le_refl _)) (Nat.ne_of_lt (Nat.lt_succ_self _))
  have J := Inv.made (C := C) I
  have r2 : Vals (V.ref (s.heap.objs.size + 1) :: vs) (Value.ref (s.heap.objs.size + 1) :: us) := .cons rfl r
  have bd := hb _ (Value.ref (s.heap.objs.size + 1) :: us) J.kIn (by rw [List.append_nil, ← r2.length]; exact F.len _ _ _ _ go)
  rw [List.append_nil] at bd
  refine wpAny_call (make_map (f := f) I.kIn M.makes M.init (beq_iff_eq.mp M.fn) (codeAny_mono (F.run _ X.stack _ _ ⟨Value.ref (s.heap.objs.size + 1) :: us, []⟩ _ _ _ (E σ) (hr.make C us []) (J.env0.make C us []) bd r2 go) fun w s' z => ?_))
  cases w with
  | error y => exact hx pins _ _ y s' J z
  | ok fl =>
    cases fl with
    | ret u =>
      obtain ⟨v, H', J3, rv, ev, q3⟩ := J.after z
      subst ev
      exact ⟨rv, ⟨V.ref (s.heap.objs.size + 1), H', J3, rfl, q3⟩⟩
    | _ => exact z.elim
theorem pe_makeS (M : Mk X.K C f) (F : FnOk X.prog X.w X.K X.mg X.base (L2.CX X.prog X.w) k f fd ps sp) (hr : Room (k + 1) X.A) (hg : L2.Gl X x) (hm : X.mg x = some (.ref C)) (hb : Binds X.K fd ps []) (hx : ∀ σ, PassesAt (L2.CX X.prog X.w) X σ (E σ))
    (ha : PA X (e :: es) t) (hdb : (x == ("__debug__" : Str)) = false := by decide) (he : starEach (e :: es) X.env = (false, eval e X.env) :: starEach es X.env := by rfl) (hpl : (backTo pos (starEach es X.env)).any (·.1) = false := by rfl) :
    PE X (.Call (.Name x p) (e :: es) [] pos) (tMakeS C sp E t) :=
  ⟨fun pins s σ H Q I h => wpAny_Call_Name_kw (ld_glob I hg hm (PySem.W.callWith_K (h₀ := X.base) I.ok.mod.kin M.kp (thn (ha.run pos pins s σ H _ I h) fun us s1 ⟨vs, H1, I1, r, q⟩ => ⟨I1.kIn, made_run M F hr hb (hx σ) I1 r q⟩) he hpl) hdb)⟩
theorem xe_make {T : Tb} {W : WX} {F : List D → Res} {fs : Rho → R (List VD)} {t n : Nat} (M : Mk X.K (T t) f) (Fk : FnOk X.prog X.w X.K X.mg X.base (L2.CX X.prog X.w) k f fd ps (spI X.K T t n F)) (hr : Room (k + 1) X.A) (hm : X.mg x = some (.ref (T t))) (hb : Binds X.K fd ps []) (tk : Takes X W)
    (hn : ∀ ds, F ds ≠ .bad → ds.length = n) (hF : ∀ ds d, F ds = .ok d → ∃ fs, d = .obj t fs) (ha : XA X T W (e :: es) fs) (hg : L2.Gl X x := by rfl) (hdb : (x == ("__debug__" : Str)) = false := by decide) (he : starEach (e :: es) X.env = (false, eval e X.env) :: starEach es X.env := by rfl) (hpl : (backTo pos (starEach es X.env)).any (·.1) = false := by rfl) :
    XE X T W (.Call (.Name x p) (e :: es) [] pos) (callE F fs) :=
  (pe_makeS (E := WE W) M Fk hr hg hm hb (fun σ => passAt tk σ) ha hdb he hpl).impQ fun σ H Q h => by
    have z := call_of hn h
    obtain ⟨β, G, S, ρ, o, q⟩ := z
    refine ⟨β, G, S, ρ, o, ?_⟩
    revert q
    cases fs ρ with
    | bad => exact fun q => q
    | err y ρ1 => exact fun q => q
    | ok vs ρ1 => exact fun q S' H' u e o' r a dx ha hd hne => spP_make hF (q S' H' u e o' r) a dx ha hd hne
end
/-! ### __init__: two statements, then self.f1 = e1, self.f0 = g(self.f1) -/
def isS (t : Nat) : Option Cell → Bool
  | some (.s u) => Nat.beq u t
  | _ => false
def initT (t n : Nat) (g1 g2 : Rho → O) (e1 : Rho → R VD) (F2 : List D → Res) (ds : List D) : Res := if ds.length = 1 then (match seqS g1 g2 (.s t :: startR n ds) with
  | .nx ρ => if isS t ρ[0]? then (match e1 ρ with
    | .ok (.d r) ρ1 => if isS t ρ1[0]? then (match F2 [r] with | .ok en => .ok (.obj t [en, r]) | _ => .bad) else .bad
    | .err x _ => .err x
    | _ => .bad) else .bad
  | .err x _ => .err x
  | _ => .bad) else .bad
theorem initT_len {t n : Nat} {g1 g2 : Rho → O} {e1 : Rho → R VD} {F2 : List D → Res} (ds : List D) (h : initT t n g1 g2 e1 F2 ds ≠ .bad) : ds.length = 1 := by
  unfold initT at h
  split at h
  · assumption
  · exact (h rfl).elim
theorem initT_obj {t n : Nat} {g1 g2 : Rho → O} {e1 : Rho → R VD} {F2 : List D → Res} (ds : List D) (d : D) (h : initT t n g1 g2 e1 F2 ds = .ok d) : ∃ fs, d = .obj t fs := by
  unfold initT at h
  repeat (first | (cases h; done) | split at h)
  all_goals first | (cases h; exact ⟨_, rfl⟩) | cases h
def besidesI (a dx : Addr) (S H : Hp) : Hp := fun c => if c = a ∨ c = dx then none else besides S H c
theorem bi_of {a dx c : Addr} {S H : Hp} {o : HO} (e : besidesI a dx S H c = some o) : (c ≠ a ∧ c ≠ dx) ∧ besides S H c = some o := by
  unfold besidesI at e
  split at e
  · cases e
  · rename_i h; exact ⟨not_or.1 h, e⟩
theorem bi_ne {a dx c : Addr} {S H : Hp} (h1 : c ≠ a) (h2 : c ≠ dx) : besidesI a dx S H c = besides S H c := by unfold besidesI; rw [if_neg (not_or.2 ⟨h1, h2⟩)]
section
variable {P : Program} {w : World} {K : PySem.W.Frag} {mg : Str → Option Value} {base : Heap} {T : Tb}
theorem self_at {β : Bt} {G S H : Hp} {σ : L2.St} {ρ : Rho} {a dx : Addr} {t : Nat} (hβ : β = .sf a dx) (o : Ok K T β G S σ ρ H) (h : isS t ρ[0]? = true) : σ[0]? = some (some (.ref a)) ∧ H a = some (.ins (T t) dx []) ∧ H dx = some (.own a) ∧ S dx = none ∧ S a = none := by
  cases q : ρ[0]? with
  | none => rw [q] at h; cases h
  | some c =>
    rw [q] at h
    cases c with
    | s u =>
      have : u = t := Nat.eq_of_beq_eq_true h
      subst this
      obtain ⟨a', dx', e1, e2, e3, e4, e5, e6, e7, e8⟩ := o.cel 0 _ q
      rw [hβ] at e2; cases e2
      exact ⟨e1, e3, e4, e5, e7⟩
    | _ => cases h
theorem fn_initT {qual f0 f1 : Str} {st : Stmt} {fI p0 p1 : Addr} {fd : FuncData} {N ps : List Str} {k m t : Nat} {g1 g2 : Rho → O} {e1 : Rho → R VD} {F2 : List D → Res} {dvs : List V} (F : FunD K "__init__" qual (defArgs st) (defBody st) (defScope st) dvs [] fI fd) (Sc : FnScope N ps (defScope st)) (hps : ps.length = 2) (hN : N.length = m + 1) (ht : isEx t = false)
    (sc : SlX.SCls K (T t)) (s0 : SlX.Slot1 K (T t) f0 p0 0) (s1 : SlX.Slot1 K (T t) f1 p1 1)
    (hbody : ∀ (cdv : Value) (A : Around) (outer : List PySem.Env) (s : Shared) (H : Hp) (E : L2.XK), Room k (A.deeper (envOfC qual (defScope st) s.heap.objs.size fI cdv)) →
      Takes (cxOf (L2.CX P w) P w K mg base N qual (defScope st) fI cdv A outer s H E) (fun c d _ H' => E c d H') →
      PassesOwn (model P w) (cxOf (L2.CX P w) P w K mg base N qual (defScope st) fI cdv A outer s H E).A (cxOf (L2.CX P w) P w K mg base N qual (defScope st) fI cdv A outer s H E).env (cxOf (L2.CX P w) P w K mg base N qual (defScope st) fI cdv A outer s H E).xe →
      PSs (cxOf (L2.CX P w) P w K mg base N qual (defScope st) fI cdv A outer s H E) (defBody st) (tSeq (rS K T (fun c d _ H' => E c d H') g1) (tSeq (rS K T (fun c d _ H' => E c d H') g2) (tSeq (SlX.sSl K (tVar 0) (rE K T (fun c d _ H' => E c d H') e1) f1) (SlX.sSl K (tVar 0) (tCallS (spP K T 1 F2) (WE fun c d _ H' => E c d H') (tCons (SlX.tSl K (tVar 0) f1) tNil)) f0))))) :
    FnOk P w K mg base (L2.CX P w) (k + 1) fI fd ps (spI K T t 1 (initT t m g1 g2 e1 F2)) := by
  refine F.ok Sc (fun vs H Q E h => ?_) (fun cdv A outer s H vs Q E hr h => ⟨_, hbody cdv A outer s H E hr (takes_of rfl rfl rfl rfl) (passes_of rfl), ?_⟩)
  · obtain ⟨S, a, dx, ws, ds, rfl, _, _, _, _, _, _, r, hl, _⟩ := h
    rw [List.length_cons, r.len, hl, hps]
  · obtain ⟨S, a, dx, ws, ds, rfl, e, ha, hd, hne, hHa, hHd, r, hl, p⟩ := h
    have O0 : Ok K T (.sf a dx) (besidesI a dx S H) S (L2.start N (V.ref a :: ws)) (.s t :: startR m ds) H := by
      refine ⟨e, fun c o q => besides_same c o (bi_of q).2, fun c o q => besides_apart (bi_of q).2, (fun c q => by cases q), (fun c q => by cases q), ?_, fun i c q => ?_, fun i j xs ys q => ?_⟩
      · unfold L2.start startR
        simp only [List.length_append, List.length_map, List.length_cons, List.length_replicate]
        rw [r.len, hN]
        omega
      · cases i with
        | zero =>
          simp at q; subst q
          exact ⟨a, dx, by simp [L2.start], rfl, hHa, hHd, hd, by unfold besidesI; rw [if_pos (.inr rfl)], ha, by unfold besidesI; rw [if_pos (.inl rfl)]⟩
        | succ i =>
          have z := start_cell (n := N.length - (ws.length + 1)) (k := m - ds.length) (i := i) (c := c) (H := H) (β := .sf a dx) (G := besidesI a dx S H) r (by simpa [startR] using q)
          have z2 : CellOk K T (.sf a dx) (besidesI a dx S H) S H (L2.start N (V.ref a :: ws))[i + 1]? c := by simpa [L2.start] using z
          exact z2
      · cases i with
        | zero => simp at q
        | succ i => exact (start_noM (i := i) (by simpa [startR] using q)).elim
    have extI : ∀ {S' H' : Hp} {σ' : L2.St} {ρ' : Rho}, Same S S' → Ok K T (.sf a dx) (besidesI a dx S H) S' σ' ρ' H' → ExtI a dx S H S' H' := fun {S' H' σ' ρ'} e1 o => {
      s := e1
      h := fun b u h1 h2 q => by
        cases z : S b with
        | none => exact o.gh b u (by rw [bi_ne h1 h2]; exact besides_of q z)
        | some u' => have := e b u' z; rw [q] at this; cases this; exact o.sh b _ (e1 b _ z)
      sh := o.sh
      fr := fun b u h1 h2 q => by
        cases z : S b with
        | some u' => exact e1 b u' z
        | none => exact o.gs b u (by rw [bi_ne h1 h2]; exact besides_of q z) }
    unfold initT at p
    rw [if_pos hl] at p
    unfold seqS at p
    refine ⟨.sf a dx, besidesI a dx S H, S, _, O0, ?_⟩
    revert p
    cases g1 (.s t :: startR m ds) with
    | err y ρ1 => exact fun p S1 σ1 H1 c d e1 o1 xr => p S1 H1 c d (extI e1 o1) xr
    | bad => exact fun p => p
    | bk ρ1 => exact fun p => p.elim
    | ct ρ1 => exact fun p => p.elim
    | rt v ρ1 => exact fun p => p.elim
    | rf l ρ1 => exact fun p => p.elim
    | nx ρ1 =>
    intro p S1 σ1 H1 e1' o1
    refine ⟨.sf a dx, besidesI a dx S H, S1, ρ1, o1, ?_⟩
    dsimp only at p
    revert p
    cases g2 ρ1 with
    | err y ρ2 => exact fun p S2 σ2 H2 c d e2 o2 xr => p S2 H2 c d (extI (e1'.trans e2) o2) xr
    | bad => exact fun p => p
    | bk ρ2 => exact fun p => p.elim
    | ct ρ2 => exact fun p => p.elim
    | rt v ρ2 => exact fun p => p.elim
    | rf l ρ2 => exact fun p => p.elim
    | nx ρ2 =>
    intro p S2 σ2 H2 e2 o2
    dsimp only at p
    by_cases hs2 : isS t ρ2[0]? = true
    case neg => rw [if_neg hs2] at p; exact p.elim
    rw [if_pos hs2] at p
    refine ⟨.sf a dx, besidesI a dx S H, S2, ρ2, o2, ?_⟩
    revert p
    cases e1 ρ2 with
    | bad => exact fun p => p
    | err y ρ3 => exact fun p S3 H3 c d e3 o3 xr => p S3 H3 c d (extI ((e1'.trans e2).trans e3) o3) xr
    | ok v ρ3 =>
    intro p S3 H3 u e3 o3 rv
    cases v with
    | sl i => exact p.elim
    | d r =>
    dsimp only at p
    by_cases hs3 : isS t ρ3[0]? = true
    case neg => rw [if_neg hs3] at p; exact p.elim
    rw [if_pos hs3] at p
    obtain ⟨f1', f2', f3', f4', f5'⟩ := self_at rfl o3 hs3
    refine ⟨.ref a, f1', a, T t, dx, p1, [], 1, rfl, .inl ⟨f2', rfl⟩, sc, s1, ?_⟩
    have put1 : SlX.putS 1 u [] = [none, some u] := rfl
    rw [put1]
    have slt1 : SlX.Slt (SlX.slH H3 a (T t) dx [none, some u]) a (T t) dx [none, some u] := SlX.slH_slt hne
    refine ⟨.ref a, f1', a, T t, dx, p1, [none, some u], 1, u, rfl, slt1, sc, s1, rfl, ?_⟩
    have sameS : Same S3 (SlX.slH H3 a (T t) dx [none, some u]) := fun b o q => by
      rw [SlX.slH_ne (ne_of_none q f5') (ne_of_none q f4')]; exact o3.sh b o q
    cases hF2 : F2 [r] with
    | err y => rw [hF2] at p; exact p.elim
    | bad => rw [hF2] at p; exact p.elim
    | ok en =>
    rw [hF2] at p
    refine ⟨S3, [r], sameS, ⟨u, [], rfl, rv, rfl⟩, rfl, ?_⟩
    rw [hF2]
    intro S4 H4 v e4 rv4
    have aH4 : H4 a = some (SlX.SlO a (T t) dx [none, some u]) := e4.h _ _ upd_same
    have dH4 : H4 dx = some (.xd []) := e4.h _ _ (by unfold SlX.slH; rw [upd_ne hne, upd_same])
    have aS4 : S4 a = none := (e4.fr _ _ (show SlX.slH H3 a (T t) dx [none, some u] a = some _ from upd_same)).trans f5'
    have dS4 : S4 dx = none := (e4.fr _ _ (show SlX.slH H3 a (T t) dx [none, some u] dx = some (.xd []) by unfold SlX.slH; rw [upd_ne hne, upd_same])).trans f4'
    refine ⟨.ref a, f1', a, T t, dx, p0, [none, some u], 0, rfl, .inr ⟨aH4, dH4⟩, sc, s0, ?_⟩
    have put0 : SlX.putS 0 v [none, some u] = [some v, some u] := rfl
    rw [put0]
    have sn : Same S4 (SlX.slH S4 a (T t) dx [some v, some u]) := fun b o q => by
      rw [SlX.slH_ne (ne_of_none q aS4) (ne_of_none q dS4)]; exact q
    have sAll : Same S S4 := ((e1'.trans e2).trans e3).trans e4.s
    have base := extI ((e1'.trans e2).trans e3) o3
    refine p.2 (SlX.slH S4 a (T t) dx [some v, some u]) _ [v, u] ⟨sAll.trans sn, fun b o h1 h2 q => ?_, fun b o q => ?_, fun b o h1 h2 q => ?_⟩ (.inr ⟨ht, dx, upd_same, by unfold SlX.slH; rw [upd_ne hne, upd_same]⟩) ⟨v, [u], rfl, Rp.mono sn _ _ rv4, u, [], rfl, Rp.mono (e4.s.trans sn) _ _ rv, rfl⟩
    · rw [SlX.slH_ne h1 h2]
      exact e4.h b o (by rw [SlX.slH_ne h1 h2]; exact base.h b o h1 h2 q)
    · by_cases hba : b = a
      · subst hba; rw [show SlX.slH S4 b (T t) dx [some v, some u] b = some _ from upd_same] at q; rw [← q]; exact upd_same
      · by_cases hbd : b = dx
        · subst hbd
          rw [show SlX.slH S4 a (T t) b [some v, some u] b = some (.xd []) by unfold SlX.slH; rw [upd_ne hne, upd_same]] at q
          rw [← q]; unfold SlX.slH; rw [upd_ne hne, upd_same]
        · rw [SlX.slH_ne hba hbd] at q ⊢; exact e4.sh b o q
    · rw [SlX.slH_ne h1 h2, e4.fr b o (by rw [SlX.slH_ne h1 h2]; exact base.h b o h1 h2 q)]
      exact base.fr b o h1 h2 q
end
end Lq
namespace Lq
open PySem PySem.Spec PyProof.Rows L2
/-! ### instances with slots: fields, properties -/
def slotD (t i : Nat) : D → Option D
  | .obj t' fs => if t' = t then fs[i]? else none
  | _ => none
def propD (t : Nat) (F : List D → Res) : D → Option D
  | .obj t' fs => if t' = t then (match F [.obj t' fs] with | .ok d => some d | _ => none) else none
  | _ => none
theorem rps_get {K : PySem.W.Frag} {T : Tb} {S : Hp} : ∀ {fs : List D} {vs : List V} {i : Nat} {d : D}, Rps K T S fs vs → fs[i]? = some d → ∃ v, vs[i]? = some v ∧ Rp K T S d v
  | [], _, i, d, _, h => by simp at h
  | x :: fs, _, 0, d, ⟨v, vr, e, r, _⟩, h => by
    subst e; simp at h; subst h; exact ⟨v, rfl, r⟩
  | x :: fs, _, i + 1, d, ⟨v, vr, e, _, rr⟩, h => by
    subst e
    obtain ⟨u, hu, ru⟩ := rps_get (i := i) rr (by simpa using h)
    exact ⟨u, by simpa using hu, ru⟩
/-- an instance of the class t as it stands -/
theorem obj_at {K : PySem.W.Frag} {T : Tb} {S H : Hp} {t : Nat} {fs : List D} {x : V} (ht : isEx t = false) (e : Same S H) (hx : RpH K T S H (.obj t fs) x) : ∃ a dx vs, x = .ref a ∧ SlX.Slt H a (T t) dx (vs.map some) ∧ Rps K T S fs vs ∧ Rp K T S (.obj t fs) x := by
  rcases hx with ⟨a, vs, rfl, ob, rps⟩ | ⟨_, _, _, _, z, _⟩
  · rcases ob with ⟨z, _⟩ | ⟨z, dx, s1, s2⟩
    · rw [ht] at z; cases z
    · exact ⟨a, dx, vs, rfl, .inr ⟨e _ _ s1, e _ _ s2⟩, rps, ⟨a, vs, rfl, .inr ⟨z, dx, s1, s2⟩, rps⟩⟩
  · cases z
section
variable {X : Cx} {T : Tb} {W : WX} {e : Expr} {fa : Rho → R VD} {f : Str} {pos : Pos} {t : Nat}
theorem xe_slot {p : Addr} {i : Nat} (ht : isEx t = false) (sc : SlX.SCls X.K (T t)) (s1 : SlX.Slot1 X.K (T t) f p i) (he : XE X T W e fa) (hb : attributeBase e f X.env (eval e X.env) = eval e X.env := by rfl) : XE X T W (.Attribute e f pos) (op1E (slotD t i) fa) :=
  (SlX.pe_sl he hb).impQ fun σ H Q h => by
    refine tUn_of (r := fun x H1 Q => ∃ a C dx p vs i v, x = .ref a ∧ SlX.Slt H1 a C dx vs ∧ SlX.SCls X.K C ∧ SlX.Slot1 X.K C f p i ∧ vs[i]? = some (some v) ∧ Q v H1) ?_ h
    intro S H x dx d Q e hx hd g
    unfold slotD at hd
    split at hd
    · rename_i t' fs
      split at hd
      · rename_i hh
        subst hh
        obtain ⟨a, dx', vs, rfl, sl, rps, _⟩ := obj_at ht e hx
        obtain ⟨v, hv, rv⟩ := rps_get rps hd
        exact ⟨a, _, dx', p, _, i, v, rfl, sl, sc, s1, by rw [List.getElem?_map, hv]; rfl, g.now e rv⟩
      · cases hd
    · cases hd
theorem xe_prop {p gA : Addr} {F : List D → Res} {k : Nat} {fd : FuncData} (ht : isEx t = false) (sc : SlX.SCls X.K (T t)) (at_ : PySem.W.findIn X.K (.ref (T t)) f = some (some (.ref p))) (get : PySem.W.specialIn X.K (.ref p) "__get__" = some (some (.builtin "property.__get__")))
    (tk : PySem.W.takesIn X.K (.ref p) = some true) (rc : ∃ rest, PySem.W.recIn X.K p "property" = some (.ref gA :: rest)) (Fk : FnOk X.prog X.w X.K X.mg X.base (L2.CX X.prog X.w) k gA fd ["self"] (spP X.K T 1 F)) (hb : Binds X.K fd ["self"] []) (hr : Room (k + 1) X.A)
    (he : XE X T W e fa) (hbs : attributeBase e f X.env (eval e X.env) = eval e X.env := by rfl) : XE X T W (.Attribute e f pos) (op1E (propD t F) fa) :=
  (SlX.pe_propSl (E := fun _ _ _ => False) he sc at_ get tk rc (Fk.raw hb .nil) hr (fun _ _ _ _ z => cx_no z) hbs).impQ fun σ H Q h => by
    refine tUn_of (r := fun x H1 Q => ∃ a dx vs, x = .ref a ∧ SlX.Slt H1 a (T t) dx vs ∧ spP X.K T 1 F ([.ref a] ++ []) H1 Q fun _ _ _ => False) ?_ h
    intro S H x dx d Q e hx hd g
    unfold propD at hd
    split at hd
    · rename_i t' fs
      split at hd
      · rename_i hh
        subst hh
        obtain ⟨a, dx', vs, rfl, sl, _, rp⟩ := obj_at ht e hx
        split at hd
        · rename_i d' hF
          cases hd
          exact ⟨a, dx', _, rfl, sl, S, [.obj _ fs], e, ⟨_, [], rfl, rp, rfl⟩, rfl, by rw [hF]; exact g⟩
        · cases hd
      · cases hd
    · cases hd
end
end Lq
namespace Lq
open PySem PySem.Spec PyProof.Rows L2
/-! ### (*a, b) -/
def starA (fa : Rho → R VD) (fs : Rho → R (List VD)) : Rho → R (List VD) := fun ρ => (fa ρ).bind fun v ρ1 => match (res v ρ1).bind D.items? with
  | some xs => (fs ρ1).bind fun vs ρ2 => .ok (xs.map VD.d ++ vs) ρ2
  | none => .bad
theorem rpvs_app {K : PySem.W.Frag} {T : Tb} {σ : L2.St} {S : Hp} : ∀ {xs : List D} {us : List V} {vs : List VD} {ws : List V}, Rps K T S xs us → RpVs K T σ S vs ws → RpVs K T σ S (xs.map VD.d ++ vs) (us ++ ws)
  | [], _, vs, ws, h, h2 => by obtain rfl : _ = [] := h; exact h2
  | x :: xs, _, vs, ws, ⟨u, r, e, h, hs⟩, h2 => by subst e; exact ⟨u, r ++ ws, rfl, h, rpvs_app hs h2⟩
section
variable {X : Cx} {T : Tb} {W : WX} {e : Expr} {es : List Expr} {fa : Rho → R VD} {fs : Rho → R (List VD)} {p : Pos}
theorem xa_star (ha : XE X T W e fa) (hs : XA X T W es fs) (hst : starEach (.Starred e p :: es) X.env = (true, eval e X.env) :: starEach es X.env := by rfl) : XA X T W (.Starred e p :: es) (starA fa fs) := (StX.pa_star ha hs hst).impQ fun σ H Q h => by
  obtain ⟨β, G, S, ρ, o, p⟩ := h
  refine ⟨β, G, S, ρ, o, Post.thn (Rl := RpV X.K T σ) p fun S1 H1 ρ1 v u e1 o1 h1 p1 => ?_⟩
  split at p1
  · rename_i xs hx
    obtain ⟨d, hd, hi⟩ := Option.bind_eq_some_iff.1 hx
    obtain ⟨a, vs, rfl, hq, hr⟩ := items_sq o1.sh (o1.res h1 hd) hi
    refine ⟨a, vs, rfl, hq.symm, β, G, S1, ρ1, o1, Post.thn (Rl := RpVs X.K T σ) p1 fun S2 H2 ρ2 ws us e2 o2 h2 p2 => ?_⟩
    exact p2 S2 H2 _ (Same.refl _) o2 (rpvs_app (Rps.mono e2 _ _ hr) h2)
  · exact p1.elim
end
end Lq
namespace Lq
open PySem PySem.Spec PyProof.Rows L2
/-! ### C(), by the default -/
section
variable {X : Cx} {C f : Addr} {k : Nat} {fd : FuncData} {ps : List Str} {sp : Sp} {E : L2.St → L2.XK} {x : Str} {p pos : Pos}
theorem made_run0 {ds : List Value} {dvs : List V} {pins : List (Addr × Obj)} {σ : L2.St} {H : Hp} {s : Shared} {Q : VK} (M : Mk X.K C f) (F : FnOk X.prog X.w X.K X.mg X.base (L2.CX X.prog X.w) k f fd ps sp) (hr : Room (k + 1) X.A) (hb : Binds X.K fd ps ds) (hd : Vals dvs ds)
    (hx : PassesAt (L2.CX X.prog X.w) X σ (E σ)) (I : Inv X pins σ H s) (h : ∀ x dx, H x = none → H dx = none → dx ≠ x → sp (.ref x :: dvs) (upd (upd H dx (.own x)) x (.ins C dx [])) (fun v H2 => v = .non ∧ Q (.ref x) H2) (E σ)) :
    wpAny (model X.prog X.w) X.A (call (.ref C) []) (EP X pins σ Q) X.xe s := by
  have go := h (s.heap.objs.size + 1) s.heap.objs.size (I.hok.fresh (Nat.le_succ _)) (I.hok.fresh (Nat.le_refl _)) (Nat.ne_of_lt (Nat.lt_succ_self _))
  have J := Inv.made (C := C) I
  have r2 : Vals (V.ref (s.heap.objs.size + 1) :: dvs) (Value.ref (s.heap.objs.size + 1) :: ds) := .cons rfl hd
  have bd := hb _ [Value.ref (s.heap.objs.size + 1)] J.kIn (by rw [List.singleton_append, ← r2.length]; exact F.len _ _ _ _ go)
  rw [List.singleton_append] at bd
  refine wpAny_call (make_map (f := f) I.kIn M.makes M.init (beq_iff_eq.mp M.fn) (codeAny_mono (F.run _ X.stack _ _ ⟨[Value.ref (s.heap.objs.size + 1)], []⟩ _ _ _ (E σ) (hr.make C [] []) (J.env0.make C [] []) bd r2 go) fun w s' z => ?_))
  cases w with
  | error y => exact hx pins _ _ y s' J z
  | ok fl =>
    cases fl with
    | ret u =>
      obtain ⟨v, H', J3, rv, ev, q3⟩ := J.after z
      subst ev
      exact ⟨rv, ⟨V.ref (s.heap.objs.size + 1), H', J3, rfl, q3⟩⟩
    | _ => exact z.elim
def dfA (d : D) : Rho → R (List VD) := fun ρ => .ok [.d d] ρ
theorem xe_make0 {T : Tb} {W : WX} {F : List D → Res} {t n : Nat} {d0 : Addr} {d : D} (M : Mk X.K (T t) f) (Fk : FnOk X.prog X.w X.K X.mg X.base (L2.CX X.prog X.w) k f fd ps (spI X.K T t n F)) (hr : Room (k + 1) X.A) (hm : X.mg x = some (.ref (T t))) (hb : Binds X.K fd ps [.ref d0]) (hd0 : ∀ S, Rp X.K T S d (.ref d0)) (tk : Takes X W)
    (hn : ∀ ds, F ds ≠ .bad → ds.length = n) (hF : ∀ ds d, F ds = .ok d → ∃ fs, d = .obj t fs) (hg : L2.Gl X x := by rfl) (hdb : (x == ("__debug__" : Str)) = false := by decide) :
    XE X T W (.Call (.Name x p) [] [] pos) (callE F (dfA d)) := by
  refine ⟨fun pins s σ H Q I h => ?_⟩
  refine wpAny_Call_Name_kw (ld_glob I hg hm ?_ hdb)
  refine PySem.W.callWith_K0 I.kIn M.kp (made_run0 (E := WE W) (dvs := [.ref d0]) M Fk hr hb (.cons rfl .nil) (passAt tk σ) I fun a dx ha hd hne => ?_)
  obtain ⟨β, G, S, ρ, o, q⟩ := call_of hn h
  exact spP_make hF (q S H [.ref d0] (Same.refl _) o ⟨_, [], rfl, hd0 S, rfl⟩) a dx ha hd hne
end
/-! ### what of the text is said of a class with slots -/
structure PropF (K : PySem.W.Frag) (C : Addr) (f : Str) (p g : Addr) : Prop where
  at_ : PySem.W.findIn K (.ref C) f = some (some (.ref p))
  get : PySem.W.specialIn K (.ref p) "__get__" = some (some (.builtin "property.__get__"))
  tk : PySem.W.takesIn K (.ref p) = some true
  rc : ∃ rest, PySem.W.recIn K p "property" = some (.ref g :: rest)
/-- a def with one default () -/
structure FunU (K : PySem.W.Frag) (T : Tb) (x qual : Str) (st : Stmt) (d0 f : Addr) (fd : FuncData) : Prop where
  fn : FunD K x qual (defArgs st) (defBody st) (defScope st) [V.ref d0] [] f fd
  df : ∀ S, Rp K T S (.tup []) (.ref d0)
theorem funU_mk {K : PySem.W.Frag} {T : Tb} {x qual : Str} {st : Stmt} {f dT d0 : Addr} {oc : Value} {od : Option Addr} {kV doc pm : Value} {an : Option Addr} {cdv ct : Value} {osl : Array (Option Value)} {oT o0 : Option Addr} {nT n0 : Nat} {sT s0 : Array (Option Value)}
    (l : K.lookup f = some ⟨oc, od, .func (PySem.W.fnOf x qual (defArgs st) (defBody st) (defScope st) (.ref dT) kV doc pm an cdv ct), osl⟩) (c : PySem.W.codeIn K cdv qual = true) (k : PySem.W.keepIn K (.ref f) = true)
    (lT : K.lookup dT = some ⟨.type "tuple", oT, .seq #[.ref d0] nT, sT⟩) (l0 : K.lookup d0 = some ⟨.type "tuple", o0, .seq #[] n0, s0⟩) :
    FunU K T x qual st d0 f (PySem.W.fnOf x qual (defArgs st) (defBody st) (defScope st) (.ref dT) kV doc pm an cdv ct) where
  fn := { ex := ⟨_, _, _, _, _, _, _, _, _, _, rfl, l, c, .inr ⟨by simp, dT, _, [.ref d0], nT, rfl, lT, rfl, .cons rfl .nil⟩, .inl rfl⟩, kp := k }
  df := fun S => rp_kstrs (ss := []) l0 rfl rfl (by rw [sizeLine_eq]; show 0 ≤ _; decide) .nil S
end Lq
namespace Lq
open PySem PySem.Spec PyProof.Rows L2
/-! ### x += e, x -= e (ints); list.extend, list.remove -/
def augS (i : Nat) (f : Int → Int → Int) (fa : Rho → R VD) : Rho → O := fun ρ => match ρ[i]? with
  | some (.d (.int a)) => (fa ρ).thnO fun v ρ1 => match v with | .d (.int b) => .nx (ρ1.set i (.d (.int (f a b)))) | _ => .bad
  | _ => .bad
def extE (i : Nat) (fs : Rho → R (List VD)) : Rho → R VD := fun ρ => match ρ[i]? with
  | some (.m _) => (fs ρ).bind fun vs ρ1 => (match ρ1[i]?, vs with
    | some (.m xs), [.d (.lst ys)] => if fits (xs.length + ys.length) then .ok (.d .non) (ρ1.set i (.m (xs ++ ys))) else .bad
    | _, _ => .bad)
  | _ => .bad
def asStrs : List D → Option (List Str)
  | [] => some []
  | .str w :: r => (asStrs r).map (w :: ·)
  | _ => none
theorem asStrs_of : ∀ {xs : List D} {ws : List Str}, asStrs xs = some ws → xs = ws.map D.str
  | [], _, h => by cases h; rfl
  | .str w :: r, _, h => by
    unfold asStrs at h
    obtain ⟨ws, h1, rfl⟩ := Option.map_eq_some_iff.1 h
    rw [asStrs_of h1]; rfl
  | .non :: _, _, h => by simp [asStrs] at h
  | .bl _ :: _, _, h => by simp [asStrs] at h
  | .int _ :: _, _, h => by simp [asStrs] at h
  | .lst _ :: _, _, h => by simp [asStrs] at h
  | .tup _ :: _, _, h => by simp [asStrs] at h
  | .obj _ _ :: _, _, h => by simp [asStrs] at h
  | .scr _ :: _, _, h => by simp [asStrs] at h
theorem asStrs_map : ∀ (ws : List Str), asStrs (ws.map D.str) = some ws
  | [] => rfl
  | w :: ws => by show (asStrs (ws.map D.str)).map _ = _; rw [asStrs_map ws]; rfl
theorem rps_strs {K : PySem.W.Frag} {T : Tb} {S : Hp} : ∀ {ws : List Str} {vs : List V}, Rps K T S (ws.map D.str) vs → vs = ws.map V.str
  | [], _, h => h
  | w :: ws, _, ⟨u, r, e, h, hs⟩ => by
    subst e
    rw [show u = V.str w from h, rps_strs hs]; rfl
theorem strs_rps {K : PySem.W.Frag} {T : Tb} {S : Hp} : ∀ (ws : List Str), Rps K T S (ws.map D.str) (ws.map V.str)
  | [] => rfl
  | w :: ws => ⟨_, _, rfl, rfl, strs_rps ws⟩
def remE (i : Nat) (fs : Rho → R (List VD)) : Rho → R VD := fun ρ => match ρ[i]? with
  | some (.m _) => (fs ρ).bind fun vs ρ1 => (match ρ1[i]?, vs with
    | some (.m xs), [.d (.str w)] => (match asStrs xs with | some ws => if w ∈ ws then .ok (.d .non) (ρ1.set i (.m ((ws.erase w).map D.str))) else .bad | none => .bad)
    | _, _ => .bad)
  | _ => .bad
section
variable {X : Cx}
def rRemove : V → List V → Hp → VK → Prop := fun x vs H Q => ∃ (l : Addr) (ws : List Str) (w : Str), x = .ref l ∧ vs = [.str w] ∧ H l = some (.lst (ws.map V.str)) ∧ w ∈ ws ∧ Q .non (upd H l (.lst ((ws.erase w).map V.str)))
theorem map_erI {α β : Type} (f : α → β) : ∀ (l : List α) (i : Nat), (l.eraseIdx i).map f = (l.map f).eraseIdx i
  | [], _ => rfl
  | _ :: _, 0 => rfl
  | a :: l, i + 1 => by simp [List.eraseIdx, map_erI f l i]
theorem vals_erI : ∀ {xs : List V} {us : List Value} (i : Nat), Vals xs us → Vals (xs.eraseIdx i) (us.eraseIdx i)
  | _, _, _, .nil => .nil
  | _, _, 0, .cons _ t => t
  | _, _, i + 1, .cons r t => .cons r (vals_erI i t)
theorem flat_strV (ws : List Str) : (ws.map V.str).all flatV = true := by simp [flatV]
theorem mt_remove : MtM X "list.remove" rRemove := by
  intro pins s σ H x vs v us Q I rx rv h
  obtain ⟨l, ws, w, rfl, rfl, hH, hm, q⟩ := h
  cases rx
  obtain ⟨u, rfl, ru⟩ := rv.one
  obtain ⟨z, its, n, r, hl, e⟩ := I.lstM hH
  have hz : its.length ≤ sizeLine := by rw [← hl]; exact z
  have hj : ws.idxOf w < ws.length := List.idxOf_lt_length_of_mem hm
  have hj2 : ws.idxOf w < its.toArray.size := by rw [List.size_toArray, ← hl, List.length_map]; exact hj
  have at_ : ∀ m (h : m < its.toArray.size), eqU (V.str w) its.toArray[m] = decide (ws[m]? = some w) := fun m hm => by
    have hmi : m < its.length := by simpa using hm
    have hmw : m < ws.length := by rw [← List.length_map (f := V.str), hl]; exact hmi
    have hy : (ws.map V.str)[m]? = some (V.str ws[m]) := by rw [List.getElem?_map, List.getElem?_eq_getElem hmw]; rfl
    obtain ⟨u2, hu2, ru2⟩ := r.get hy
    obtain ⟨_, hme⟩ := List.getElem?_eq_some_iff.mp hu2
    have e1 : its.toArray[m] = u2 := by simpa using hme
    rw [e1, eqU_of ru2 rfl, List.getElem?_eq_getElem hmw]
    by_cases c : ws[m] = w
    · simp [eqV, c]
    · simp [eqV, c]
  refine call_meets F.slot_list_remove ⟨_, e, rfl⟩ F.entry_list_remove (F.args_list_remove_2 _ _)
    (SeqAt.list_removeAt l its.toArray n none #[] u (eqU (V.str w)) (ws.idxOf w) hj2 ?_ (fun m hm hlt => ?_) (by rw [List.size_toArray]; exact hz)) ⟨e, fun y hy => mem_eqAt ru rfl r (flat_strV ws) y (by simpa using hy), ?_⟩
  · rw [at_, List.getElem?_eq_getElem hj, List.getElem_idxOf hj]; exact decide_eq_true rfl
  · rw [at_]
    refine decide_eq_false fun c => ?_
    obtain ⟨hm', hc⟩ := List.getElem?_eq_some_iff.mp c
    have := List.not_of_lt_findIdx (p := (· == w)) (xs := ws) (i := m) (by simpa [List.idxOf] using hlt)
    simp [hc] at this
  · have e2 : ws.erase w = ws.eraseIdx (ws.idxOf w) := by rw [List.erase_eq_eraseIdx_of_idxOf rfl]
    refine ⟨.non, _, I.lset (its' := its.eraseIdx (ws.idxOf w)) hH e ?_ (ys := (ws.erase w).map V.str) ?_ ?_, rfl, q⟩
    · apply Array.toList_inj.mp; simp [Array.toList_eraseIdxIfInBounds]
    · rw [e2, map_erI]
      exact vals_erI _ r
    · rw [List.length_map] at z ⊢
      exact Nat.le_trans (List.length_erase_le) z
end
section
variable {X : Cx} {T : Tb} {W : WX} {e : Expr} {es : List Expr} {fa : Rho → R VD} {fs : Rho → R (List VD)} {pos : Pos}
theorem xs_aug (i : Nat) {f : Int → Int → Int} {op : Operator} {x : Str} {pos' : Pos} (hN : X.N.Nodup) (ho : PIp X op (ipI f)) (he : XE X T W e fa) (hi : X.N[i]? = some x := by rfl) (hx : Loc X.env.scope x := by first | exact Or.inl rfl | exact Or.inr rfl)
    (hf : X.fn x = true ∨ X.env.scope.names.lookup x = some .local := by first | exact .inl rfl | exact .inr rfl) : XS X T W (.AugAssign (.Name x pos') op e pos) (augS i f fa) := (ps_aug hN hi hx he ho hf).impQ fun De σ H q => by
  obtain ⟨β, G, S, ρ, o, p⟩ := q
  unfold augS at p
  cases hq : ρ[i]? with
  | none => rw [hq] at p; exact p.elim
  | some c =>
    rw [hq] at p
    cases c with
    | d x =>
      cases x with
      | int a =>
        obtain ⟨u, e1, r⟩ := o.cel i _ hq
        obtain rfl : u = .int a := r
        refine ⟨.int a, e1, β, G, S, ρ, o, PostS.thn (Rl := RpV X.K T σ) p fun S1 H1 ρ1 v u e1 o1 h1 p1 => ?_⟩
        split at p1
        · rename_i b
          obtain rfl : u = .int b := h1
          exact ⟨a, b, rfl, rfl, p1 S1 _ H1 (Same.refl _) (o1.setD (x := .int (f a b)) rfl)⟩
        · exact p1.elim
      | _ => exact p.elim
    | _ => exact p.elim
theorem xe_extend (i : Nat) {x : Str} {px apos cpos : Pos} (ha : XA X T W (e :: es) fs) (hN : X.N[i]? = some x := by rfl) (hv : Vis X.env.scope x := by first | exact Or.inl rfl | exact Or.inr (Or.inl rfl) | exact Or.inr (Or.inr rfl)) (hd : (x == ("__debug__" : Str)) = false := by decide) (hcd : (x == ("__classdict__" : Str)) = false := by decide)
    (hbase : attributeBase (.Name x px) "extend" X.env (eval (.Name x px) X.env) = eval (.Name x px) X.env := by rfl)
    (hfew : ((backTo cpos (starEach (e :: es) X.env)).all (fun x => !x.1) && (backToKw cpos (keywordEach [] X.env)).all (fun x => x.1.isSome) && decide ((e :: es).length + ([] : List Keyword).length + (if ([] : List Keyword).isEmpty then 0 else 1) < 30)) = true := by rfl)
    (hline : (apos.endLine == cpos.line) = true := by rfl) (hs : starEach (e :: es) X.env = (false, eval e X.env) :: starEach es X.env := by rfl) (hplain : (backTo cpos (starEach es X.env)).any (·.1) = false := by rfl) :
    XE X T W (.Call (.Attribute (.Name x px) "extend" apos) (e :: es) [] cpos) (extE i fs) :=
  (pe_bm PySem.F.plainAttrs_list PySem.F.slot_list_extend PySem.F.type_list_extend mt_extend (pe_var hN hv hd hcd) ha hbase hfew hline hs hplain).impQ fun σ H Q h => by
    refine slotM_of (i := i) (fe := extE i fs) (k := fun vs ρ1 => match ρ1[i]?, vs with | some (.m xs), [.d (.lst ys)] => if fits (xs.length + ys.length) then .ok (.d .non) (ρ1.set i (.m (xs ++ ys))) else .bad | _, _ => .bad) (fun ρ => rfl) (fun {β G S H ρ vs us a} o hu ha p => ?_) h
    split at p
    · rename_i xs ys q
      split at p
      · rename_i hf
        obtain ⟨b, ws, e1, e2, e3, e4, e5, r⟩ := o.cel i _ q
        rw [ha] at e1; cases e1
        obtain ⟨u, rfl, hy⟩ := hu.one
        obtain ⟨b, zs, rfl, hb, hz⟩ := (show Rp X.K T S (.lst ys) u from hy)
        refine ⟨a, b, ws, zs, rfl, rfl, e2, o.sh _ _ hb, by rw [r.len, hz.len]; exact fits_line hf, ?_⟩
        exact p S _ .non (Same.refl _) (o.updM q ha (r.append hz)) rfl
      · exact p.elim
    · exact p.elim
theorem xe_remove (i : Nat) {x : Str} {px apos cpos : Pos} (ha : XA X T W (e :: es) fs) (hN : X.N[i]? = some x := by rfl) (hv : Vis X.env.scope x := by first | exact Or.inl rfl | exact Or.inr (Or.inl rfl) | exact Or.inr (Or.inr rfl)) (hd : (x == ("__debug__" : Str)) = false := by decide) (hcd : (x == ("__classdict__" : Str)) = false := by decide)
    (hbase : attributeBase (.Name x px) "remove" X.env (eval (.Name x px) X.env) = eval (.Name x px) X.env := by rfl)
    (hfew : ((backTo cpos (starEach (e :: es) X.env)).all (fun x => !x.1) && (backToKw cpos (keywordEach [] X.env)).all (fun x => x.1.isSome) && decide ((e :: es).length + ([] : List Keyword).length + (if ([] : List Keyword).isEmpty then 0 else 1) < 30)) = true := by rfl)
    (hline : (apos.endLine == cpos.line) = true := by rfl) (hs : starEach (e :: es) X.env = (false, eval e X.env) :: starEach es X.env := by rfl) (hplain : (backTo cpos (starEach es X.env)).any (·.1) = false := by rfl) :
    XE X T W (.Call (.Attribute (.Name x px) "remove" apos) (e :: es) [] cpos) (remE i fs) :=
  (pe_bm PySem.F.plainAttrs_list PySem.F.slot_list_remove PySem.F.type_list_remove mt_remove (pe_var hN hv hd hcd) ha hbase hfew hline hs hplain).impQ fun σ H Q h => by
    refine slotM_of (i := i) (fe := remE i fs) (k := fun vs ρ1 => match ρ1[i]?, vs with | some (.m xs), [.d (.str w)] => (match asStrs xs with | some ws => if w ∈ ws then .ok (.d .non) (ρ1.set i (.m ((ws.erase w).map D.str))) else .bad | none => .bad) | _, _ => .bad) (fun ρ => rfl) (fun {β G S H ρ vs us a} o hu ha p => ?_) h
    split at p
    · rename_i xs w q
      split at p
      · rename_i ws hws
        split at p
        · rename_i hf
          obtain ⟨b, vs, e1, e2, e3, e4, e5, r⟩ := o.cel i _ q
          rw [ha] at e1; cases e1
          obtain ⟨u, rfl, hy⟩ := hu.one
          obtain rfl : u = V.str w := hy
          rw [asStrs_of hws] at r
          rw [rps_strs r] at e2
          exact ⟨a, ws, w, rfl, rfl, e2, hf, p S _ .non (Same.refl _) (o.updM q ha (strs_rps _)) rfl⟩
        · exact p.elim
      · exact p.elim
    · exact p.elim
end
end Lq
namespace Lq
open PySem PySem.Spec PyProof.Rows L2
/-! ### own __getitem__, __eq__, __add__ of a class with slots -/
def ixTE (t : Nat) (F : List D → Res) (fa fb : Rho → R VD) : Rho → R VD := fun ρ => (fa ρ).bind fun v ρ1 => (fb ρ1).bind fun w ρ2 => match res v ρ2, res w ρ2 with
  | some (.obj t' fs), some (.int i) => if t' = t then (match F [.obj t' fs, .int i] with | .ok d => .ok (.d d) ρ2 | .err x => .err x ρ2 | .bad => .bad) else .bad
  | some x, some y => (match atD x y with | some d => .ok (.d d) ρ2 | none => .bad)
  | _, _ => .bad
/-- what K says of a method -/
structure MethF (K : PySem.W.Frag) (C : Addr) (m : Str) (g : Addr) : Prop where
  at_ : PySem.W.findIn K (.ref C) m = some (some (.ref g))
  fn : PySem.W.isFn K (.ref g) = true
  fi : PySem.W.fnIn K g = true
section
variable {X : Cx} {T : Tb} {W : WX} {a b : Expr} {fa fb : Rho → R VD} {pos : Pos} {t : Nat}
theorem run_sub {pins : List (Addr × Obj)} {σ : L2.St} {H : Hp} {s : Shared} {A : Around} {Q : VK} {us : List Value} {ws : List V} {n : Nat} {g : Addr} {sp : Sp} {E : L2.XK} (F : FnR X.prog X.w X.K X.mg X.base (L2.CX X.prog X.w) n g sp) (hr : Room n A) (e0 : Env0 X.prog X.w X.K X.mg X.base A X.stack s H)
    (hx : PassesAt (L2.CX X.prog X.w) X σ E) (I : Inv X pins σ H s) (r : Vals ws us) (h : sp ws H Q E) :
    codeAny (model X.prog X.w) A (.call (.ref g) ⟨us, []⟩) (fun r s' => match r with | .ok (.ret v) => EP X pins σ Q v s' | .ok _ => False | .error e => X.xe e s') s := by
  refine codeAny_mono (F A X.stack s H us ws Q E hr e0 r h) fun r s' hq => ?_
  cases r with
  | error e => exact hx pins H s e s' I hq
  | ok fl =>
    cases fl with
    | ret u => exact I.after hq
    | next => exact False.elim hq
    | brk => exact False.elim hq
    | cont => exact False.elim hq
theorem xe_ixT {g : Addr} {F : List D → Res} {k : Nat} {fd : FuncData} {ps : List Str} (ht : isEx t = false) (m : MethF X.K (T t) "__getitem__" g) (Fk : FnOk X.prog X.w X.K X.mg X.base (L2.CX X.prog X.w) k g fd ps (spP X.K T 2 F)) (hb2 : Binds X.K fd ps []) (hr : Room (k + 1) X.A) (tk : Takes X W)
    (ha : XE X T W a fa) (hb : XE X T W b fb) (hs : PlainIx b := by exact fun _ _ => rfl) (hsl : ∀ o i, subscripted b true o i = runValue (.builtin "lifetime.subscript" ⟨[o, i], []⟩) := by exact fun _ _ => rfl) : XE X T W (.Subscript a b pos) (ixTE t F fa fb) := by
  have key : PE X (.Subscript a b pos) (fun σ H Q => rE X.K T W fa σ H fun x H1 => rE X.K T W fb σ H1 fun y H2 => (∃ a dx vs i, x = .ref a ∧ y = .int i ∧ SlX.Slt H2 a (T t) dx vs ∧ spP X.K T 2 F ([.ref a, .int i] ++ []) H2 Q (WE W σ)) ∨ rIx X.K x y H2 Q) := by
    refine ⟨fun pins s σ H Q I h => ?_⟩
    refine Subscript_ (binT ha hb I (R := fun x y H2 => (∃ a dx vs i, x = .ref a ∧ y = .int i ∧ SlX.Slt H2 a (T t) dx vs ∧ spP X.K T 2 F ([.ref a, .int i] ++ []) H2 Q (WE W σ)) ∨ rIx X.K x y H2 Q) h fun v u s2 x y H2 I2 rx ry q => ?_)
    rcases q with ⟨a, dx, vs, i, rfl, rfl, hsl', q⟩ | q
    · cases (show v = Value.ref a from rx)
      obtain ⟨sl, od, _, J, _⟩ := SlX.slt_inst I2 hsl'
      obtain ⟨mm, hF⟩ := I2.fr
      exact PySem.W.sub_K hF I2.ok.mod.kin J m.at_ m.fi m.fn (wpAny_call (run_sub (us := [.ref a, u]) (ws := [.ref a, .int i]) (Fk.raw hb2 .nil) hr.in1 I2.env0.in1 (passAt tk σ) I2 (.cons rfl (.cons ry .nil)) q)) (hsl _ _)
    · exact ix_seq _ _ pins s2 σ H2 x y v u Q I2 rx ry q (hs _ _)
  refine key.impQ fun σ H Q h => ?_
  obtain ⟨β, G, S, ρ, o, p⟩ := h
  refine ⟨β, G, S, ρ, o, Post.thn (Rl := RpV X.K T σ) p fun S1 H1 ρ1 v u e1 o1 h1 p1 => ?_⟩
  refine ⟨β, G, S1, ρ1, o1, Post.thn (Rl := RpV X.K T σ) p1 fun S2 H2 ρ2 w z e2 o2 h2 p2 => ?_⟩
  split at p2
  · rename_i t' fs i hv hw
    split at p2
    · rename_i hh
      subst hh
      obtain ⟨a, dx', vs, rfl, sl, _, rp⟩ := obj_at ht o2.sh (o2.res (h1.mono e2) hv)
      obtain rfl := (o2.res h2 hw).int
      refine .inl ⟨a, dx', _, i, rfl, rfl, sl, S2, [.obj _ fs, .int i], o2.sh, ⟨_, _, rfl, rp, _, [], rfl, rfl, rfl⟩, rfl, ?_⟩
      revert p2
      cases F [.obj t' fs, .int i] with
      | ok d => exact fun p2 => p2.gv o2
      | err x => exact fun p2 S3 H3 c d e3 hx => p2 S3 H3 c d e3.s (o2.ext e3) hx
      | bad => exact fun p2 => p2
    · exact p2.elim
  · rename_i x y hno hv hw
    split at p2
    · rename_i d hd
      exact .inr (p_ix S2 H2 u z x y d Q o2.sh (o2.res (h1.mono e2) hv) (o2.res h2 hw) hd (p2.gv o2))
    · exact p2.elim
  · exact p2.elim
/-- == -/
def eqTD (t : Nat) (F : List D → Res) : D → D → Option D
  | .obj t1 fs, .obj t2 gs => if t1 = t ∧ t2 = t then (match F [.obj t1 fs, .obj t2 gs] with | .ok (.bl k) => some (.bl k) | _ => none) else none
  | x, y => eqD x y
theorem p_own {F : List D → Res} {K : PySem.W.Frag} (ht : isEx t = false) (hn : PySem.W.notFirst K (T t) (.ref (T t)) = true) {S H : Hp} {x y : V} {fs gs : List D} {d : D} {Q : VK} (e : Same S H) (hx : RpH K T S H (.obj t fs) x) (hy : RpH K T S H (.obj t gs) y) (hF : F [.obj t fs, .obj t gs] = .ok d) (g : Gv K T S H d Q) :
    SlX.rOwn K (T t) (fun vs H Q E => spP K T 2 F (vs ++ []) H Q E) (fun _ _ _ => False) x y H Q := by
  obtain ⟨a, dx, vs, rfl, sl, _, rp⟩ := obj_at ht e hx
  obtain ⟨b, dy, ws, rfl, sl', _, rp'⟩ := obj_at ht e hy
  exact ⟨a, dx, _, b, T t, dy, _, rfl, rfl, sl, sl', hn, S, [.obj t fs, .obj t gs], e, ⟨_, _, rfl, rp, _, [], rfl, rp', rfl⟩, rfl, by rw [hF]; exact g⟩
def rEqT (K : PySem.W.Frag) (T : Tb) (t : Nat) (F : List D → Res) : R2 := fun x y H Q => SlX.rOwn K (T t) (fun vs H Q E => spP K T 2 F (vs ++ []) H Q E) (fun _ _ _ => False) x y H Q ∨ rEq2 K x y H Q
theorem op_eqT {g : Addr} {F : List D → Res} {k : Nat} {fd : FuncData} {ps : List Str} (m : MethF X.K (T t) "__eq__" g) (Fk : FnOk X.prog X.w X.K X.mg X.base (L2.CX X.prog X.w) k g fd ps (spP X.K T 2 F)) (hb2 : Binds X.K fd ps []) (hr : Room k X.A) (hu : X.A.units + 64 < cLine) :
    OpR X (compareOp .Eq) (rEqT X.K T t F) :=
  (SlX.op_own (op := .Eq) (fun _ _ => rfl) m.at_ m.fn (Fk.raw hb2 .nil) hr (fun _ _ _ _ _ _ _ z => (cx_no z).elim)).or (op_eqA hu)
theorem p_eqT {K : PySem.W.Frag} {F : List D → Res} (ht : isEx t = false) (hn : PySem.W.notFirst K (T t) (.ref (T t)) = true) : Prim2 K T (rEqT K T t F) (eqTD t F) := fun S H x y dx dy d Q e hx hy h g => by
  unfold eqTD at h
  split at h
  · rename_i t1 fs t2 gs
    split at h
    · rename_i hh
      obtain ⟨rfl, rfl⟩ := hh
      split at h
      · rename_i k hF
        cases h
        exact .inl (p_own ht hn e hx hy hF g)
      · cases h
    · cases h
  · exact .inr (p_eq S H x y dx dy d Q e hx hy h g)
end
end Lq
namespace Lq
open PySem PySem.Spec PyProof.Rows L2
/-! ### sorted(xs), xs a list of tuples of texts -/
def keyT (ws : List Str) : List (Int ⊕ List Nat) := ws.map fun x => Sum.inr x.cps.toList
theorem keyT_inj : ∀ {a b : List Str}, keyT a = keyT b → a = b
  | [], [], _ => rfl
  | [], _ :: _, h => by cases h
  | _ :: _, [], h => by cases h
  | x :: a, y :: b, h => by
    injection h with h1 h2
    injection h1 with h1
    rw [str_ext h1, keyT_inj h2]
/-- a < b, word by word -/
def ltT : List Str → List Str → Bool
  | [], [] => false
  | [], _ :: _ => true
  | _ :: _, [] => false
  | x :: r, y :: t => decide (x.cps.toList < y.cps.toList) || (!decide (y.cps.toList < x.cps.toList) && ltT r t)
theorem ltT_eq : ∀ (a b : List Str), lexLt itemOrd (keyT a) (keyT b) = ltT a b
  | [], [] => rfl
  | [], _ :: _ => rfl
  | _ :: _, [] => rfl
  | x :: r, y :: t => by
    show (itemLt (Sum.inr x.cps.toList) (Sum.inr y.cps.toList) || (!itemLt (Sum.inr y.cps.toList) (Sum.inr x.cps.toList) && lexLt itemOrd (keyT r) (keyT t))) = _
    rw [ltT_eq r t]; rfl
def leT (a b : List Str) : Prop := ltT b a = false
theorem leT_anti {a b : List Str} (h1 : leT a b) (h2 : leT b a) : a = b := keyT_inj (lex_total (O := itemOrd) _ _ ((ltT_eq a b).trans h2) ((ltT_eq b a).trans h1))
theorem leT_trans {a b c : List Str} (h1 : leT a b) (h2 : leT b c) : leT a c := by
  unfold leT at *
  cases h : ltT c a with
  | false => rfl
  | true =>
    rcases lex_negTrans (O := itemOrd) (keyT c) (keyT b) (keyT a) ((ltT_eq c a).trans h) with q | q
    · rw [ltT_eq, h2] at q; cases q
    · rw [ltT_eq, h1] at q; cases q
theorem ltT_asymm {a b : List Str} (h : ltT a b = true) : leT a b := by
  unfold leT
  cases q : ltT b a with
  | false => rfl
  | true =>
    have := lex_trans (O := itemOrd) (keyT a) (keyT b) (keyT a) ((ltT_eq a b).trans h) ((ltT_eq b a).trans q)
    rw [lex_irrefl] at this; cases this
def insT (x : List Str) : List (List Str) → List (List Str)
  | [] => [x]
  | y :: r => if ltT y x then y :: insT x r else x :: y :: r
def sortTs : List (List Str) → List (List Str)
  | [] => []
  | x :: r => insT x (sortTs r)
theorem insT_perm (x : List Str) : ∀ l : List (List Str), (insT x l).Perm (x :: l)
  | [] => .refl _
  | y :: r => by
    unfold insT
    split
    · exact ((insT_perm x r).cons y).trans (.swap x y r)
    · exact .refl _
theorem sortTs_perm : ∀ l : List (List Str), (sortTs l).Perm l
  | [] => .refl _
  | x :: r => (insT_perm x _).trans ((sortTs_perm r).cons x)
theorem insT_sorted (x : List Str) : ∀ l : List (List Str), l.Pairwise leT → (insT x l).Pairwise leT
  | [], _ => by simp [insT]
  | y :: r, h => by
    have h1 := List.pairwise_cons.mp h
    unfold insT
    split
    · rename_i hlt
      refine List.pairwise_cons.mpr ⟨fun z hz => ?_, insT_sorted x r h1.2⟩
      rcases List.mem_cons.mp ((insT_perm x r).mem_iff.mp hz) with rfl | hz
      · exact ltT_asymm hlt
      · exact h1.1 z hz
    · rename_i hlt
      have hlt' : leT x y := Bool.eq_false_iff.mpr hlt
      refine List.pairwise_cons.mpr ⟨fun z hz => ?_, h⟩
      rcases List.mem_cons.mp hz with rfl | hz
      · exact hlt'
      · exact leT_trans hlt' (h1.1 z hz)
theorem sortTs_sorted : ∀ l : List (List Str), (sortTs l).Pairwise leT
  | [] => .nil
  | x :: r => insT_sorted x _ (sortTs_sorted r)
theorem uniq_tups {a b : List (List Str)} (p : a.Perm b) (ha : a.Pairwise leT) (hb : b.Pairwise leT) : a = b :=
  List.Perm.eq_of_pairwise (fun x y _ _ h1 h2 => leT_anti h1 h2) ha hb p
theorem out_keys {κ : PyProof.Rows.KeyKind} {vs : List Value} {xs : Array Keyed} (hp : xs.Perm (pairsOf vs)) (hs : SortedToK κ xs (pairsOf vs).size) :
    (xs.map (·.2)).toList.Perm vs ∧ (xs.map (·.2)).toList.Pairwise (fun u v => ∀ k l, κ.keyOf u = some k → κ.keyOf v = some l → κ.blt l k = false) := by
  have hpl : xs.toList.Perm (vs.zip vs) := by have := hp.toList; rwa [pairsOf_toList] at this
  have hsame : ∀ p ∈ xs.toList, p.1 = p.2 := fun p h => (mem_zip_self (hpl.mem_iff.mp h)).1
  rw [Array.toList_map]
  refine ⟨?_, ?_⟩
  · have z := hpl.map Prod.snd
    rw [List.map_snd_zip (Nat.le_refl _)] at z
    exact z
  · rw [List.pairwise_map, List.pairwise_iff_getElem]
    intro i j hi hj hij k l hk hl
    have hsz : xs.size = (pairsOf vs).size := hp.size_eq
    have z := hs i j (Nat.le_of_lt hij) (by rw [← hsz]; simpa using hj)
    have gi : xs[i]? = some xs.toList[i] := by simp [List.getElem?_eq_getElem, hi] at hi ⊢
    have gj : xs[j]? = some xs.toList[j] := by simp [List.getElem?_eq_getElem, hj] at hj ⊢
    have ei := hsame _ (List.getElem_mem hi)
    have ej := hsame _ (List.getElem_mem hj)
    unfold KeyOrd.kle KK at z
    rw [gi, gj] at z
    dsimp only at z
    rw [ei, ej, hk, hl] at z
    exact z
def TupS (K : PySem.W.Frag) (H : Hp) (x : V) (ws : List Str) : Prop := ∃ t, x = .ref t ∧ SqT K H t (ws.map V.str)
def rSortT (K : PySem.W.Frag) : List V → Hp → VK → Prop := fun vs H Q => ∃ (a : Addr) (xs : List V), vs = [V.ref a] ∧ SqL K H a xs ∧ (∀ x ∈ xs, ∃ ws, TupS K H x ws) ∧ (2 ≤ xs.length → ∀ x ∈ xs, ∃ w ws, TupS K H x (w :: ws)) ∧
  ∀ (ys : List V) (p : Addr), (∀ x n m, TupS K H x n → TupS K H x m → n = m) → ys.Perm xs → ys.Pairwise (fun x y => ∀ n m, TupS K H x n → TupS K H y m → leT n m) → H p = none → Q (.ref p) (upd H p (.lst ys))
theorem tupItems_strs : ∀ {ws : List Str} {its : List Value} (i : Nat), Vals (ws.map V.str) its → tupItems (fun _ => true) i its = some (keyT ws)
  | [], _, _, .nil => rfl
  | w :: ws, _, i, .cons r t => by
    obtain ⟨u, rfl⟩ := (show ∃ t, _ = Value.str w t from r)
    show (if (true = true) then (tupItems (fun _ => true) (i + 1) _).map (Sum.inr w.cps.toList :: ·) else none) = _
    rw [if_pos rfl, tupItems_strs (i + 1) t]; rfl
section
variable {X : Cx} {pins : List (Addr × Obj)} {σ : L2.St} {H : Hp} {s : Shared}
theorem tupS_raw (I : Inv X pins σ H s) {t : Addr} {ws : List Str} (h : SqT X.K H t (ws.map V.str)) : G.tupKeyC s.heap (fun _ => true) (.ref t) = some (keyT ws) ∧ (∀ w r, ws = w :: r → ∃ f, TupOf s.heap (fun _ => true) (.ref t) f) := by
  obtain ⟨its, rv, ⟨o, ho, hc, n, hd⟩, hz⟩ := I.tuple h
  refine ⟨?_, fun w r e => ?_⟩
  · unfold G.tupKeyC
    rw [if_pos (by simp [G.isTupObj, ho, hc])]
    simp only [tupKey, ho, hd]
    exact tupItems_strs 0 rv
  · subst e
    cases rv with
    | cons r1 rt =>
      rename_i u us
      exact ⟨u, t, o, _, n, rfl, ho, hc, hd, by simp, ⟨(fun z => by cases z), (fun _ => by obtain ⟨t, e⟩ := (show ∃ t, u = Value.str w t from r1); exact ⟨_, _, e⟩)⟩⟩
theorem tupsOf_all {h : Heap} {sh : Nat → Bool} : ∀ {vs : List Value}, (∀ v ∈ vs, ∃ f, TupOf h sh v f) → ∃ fs, TupsOf h sh vs fs
  | [], _ => ⟨[], .nil⟩
  | v :: vs, hv => by
    obtain ⟨f, hf⟩ := hv v List.mem_cons_self
    obtain ⟨fs, hfs⟩ := tupsOf_all (vs := vs) fun x hx => hv x (List.mem_cons_of_mem _ hx)
    exact ⟨f :: fs, .cons hf hfs⟩
end
theorem call_sortedT {X : Cx} : CallR X (.builtin "sorted") (rSortT X.K) := by
  intro pins s σ H vs us Q I r h
  obtain ⟨a, xs, rfl, hs, hx, hx2, q⟩ := h
  obtain ⟨its, rv, hl, hz⟩ := I.list hs
  rw [Vals.ref1 r]
  obtain ⟨e1, e2⟩ := bkV_refs rv fun x m => by
    obtain ⟨ws, t, e, _⟩ := hx x m
    exact ⟨t, e⟩
  have mem : ∀ t, Value.ref t ∈ its → V.ref t ∈ xs := fun t m => by rw [e1]; exact List.mem_map.mpr ⟨_, m, rfl⟩
  have keys : ∀ v, v ∈ its → ∃ l, G.tupKeyC s.heap (fun _ => true) v = some l := fun v m => by
    obtain ⟨t, rfl⟩ := e2 v m
    obtain ⟨ws, t', e, hw⟩ := hx _ (mem t m)
    cases e
    exact ⟨_, (tupS_raw I hw).1⟩
  refine G.sortedG (κ := G.tupKindC s.heap (fun _ => true)) (kd := tuples' true) (l := a) (vs := its) hl.isList (G.tupKeys keys) (fun s₂ k => G.tupC_ltAt (s := s₂) true k) (fun h2 A E s₂ Q' k hq => ?_) (by rw [← rv.length]; exact hz) fun st' a1 a2 _ => ?_
  · obtain ⟨fs, ht⟩ := tupsOf_all (h := s.heap) (sh := fun _ => true) (vs := its) fun v m => by
      obtain ⟨t, rfl⟩ := e2 v m
      obtain ⟨w, ws, t', e, hw⟩ := hx2 (by rw [rv.length]; exact h2) _ (mem t m)
      cases e
      exact (tupS_raw I hw).2 w ws rfl
    exact tup_kind (s := s₂) (by rw [G.TupsOf.length ht]; omega) (G.TupsOf.keep k ht) hq
  · obtain ⟨h1, h2⟩ := out_keys a1 a2
    generalize (arrOf st').map (·.2) = out at h1 h2 ⊢
    obtain ⟨ep, he'⟩ := PyProof.Rows.sortedAll_at s.heap its out
    have h3 : ∀ u ∈ out.toList, ∃ a, u = Value.ref a := fun u hu => e2 u (h1.mem_iff.mp hu)
    have hp : (out.toList.map bkV).Perm xs := by rw [e1]; exact h1.map bkV
    have hlen : (out.toList.map bkV).length ≤ sizeLine := by rw [hp.length_eq]; exact hz
    refine ⟨.ref _, upd H (s.heap.objs.size + 1) (.lst (out.toList.map bkV)), I.laid (t' := s.toks) (fun _ _ => PyProof.Rows.sortedAll_old) (Nat.le_succ _) ⟨hlen, out.toList, ep, bkV_vals h3, he'⟩, rfl, q _ _ (fun x n m hn hm => ?_) hp ?_ (I.hok.fresh (Nat.le_succ _))⟩
    · obtain ⟨t, rfl, ht⟩ := hn
      obtain ⟨t', et, ht'⟩ := hm
      cases et
      exact keyT_inj (Option.some.inj ((tupS_raw I ht).1.symm.trans (tupS_raw I ht').1))
    rw [List.pairwise_map]
    refine List.Pairwise.imp (fun {u v} huv n m hn hm => ?_) h2
    obtain ⟨t, et, ht⟩ := hn
    obtain ⟨t', et', ht'⟩ := hm
    have eu := bkV_ref et
    have ev := bkV_ref et'
    subst eu ev
    have z := huv _ _ (tupS_raw I ht).1 (tupS_raw I ht').1
    exact (ltT_eq _ _).symm.trans z
/-! .. over data -/
def tupStrs : D → Option (List Str)
  | .tup xs => asStrs xs
  | _ => none
def tupsStrs : List D → Option (List (List Str))
  | [] => some []
  | d :: r => match tupStrs d, tupsStrs r with | some w, some ws => some (w :: ws) | _, _ => none
def dTup (ws : List Str) : D := .tup (ws.map D.str)
theorem tupsStrs_of : ∀ {xs : List D} {wss : List (List Str)}, tupsStrs xs = some wss → xs = wss.map dTup
  | [], _, h => by cases h; rfl
  | d :: r, _, h => by
    unfold tupsStrs at h
    split at h
    · rename_i w ws h1 h2
      cases h
      rw [tupsStrs_of h2]
      cases d with
      | tup xs => rw [asStrs_of h1]; rfl
      | _ => cases h1
    · cases h
theorem tupsStrs_map : ∀ (wss : List (List Str)), tupsStrs (wss.map dTup) = some wss
  | [] => rfl
  | w :: ws => by
    show (match asStrs (w.map D.str), tupsStrs (ws.map dTup) with | some w, some ws => some (w :: ws) | _, _ => none) = _
    rw [asStrs_map, tupsStrs_map ws]
/-- sorted, of texts, numbers, or tuples of texts -/
def sortedTF : List D → Option (List D)
  | [x] => (match x.items? with
    | some xs => (match sortDs xs with
      | some ds => some ds
      | none => (match x with
        | .lst _ => (match tupsStrs xs with | some wss => if decide (wss.length < 2) || wss.all (fun w => !w.isEmpty) then some ((sortTs wss).map dTup) else none | none => none)
        | _ => none))
    | none => none)
  | _ => none
def rSortAT (K : PySem.W.Frag) : List V → Hp → VK → Prop := fun vs H Q => rSortA K vs H Q ∨ rSortT K vs H Q
theorem call_sortedAT {X : Cx} : CallR X (.builtin "sorted") (rSortAT X.K) := fun pins s σ H vs us Q I r h => h.elim (call_sortedA pins s σ H vs us Q I r) (call_sortedT pins s σ H vs us Q I r)
theorem rps_tups {K : PySem.W.Frag} {T : Tb} {S H : Hp} (e : Same S H) : ∀ {wss : List (List Str)} {vs : List V}, Rps K T S (wss.map dTup) vs → wss.length = vs.length ∧ (∀ (i : Nat) (w : List Str) (v : V), wss[i]? = some w → vs[i]? = some v → TupS K H v w ∧ Rp K T S (dTup w) v)
  | [], _, h => by obtain rfl : _ = [] := h; exact ⟨rfl, fun i w v h => by simp at h⟩
  | w :: wss, _, ⟨u, r, e1, h, hs⟩ => by
    subst e1
    obtain ⟨z1, z2⟩ := rps_tups e hs
    refine ⟨by simp [z1], fun i w' v h1 h2 => ?_⟩
    cases i with
    | zero =>
      simp at h1 h2; subst h1 h2
      obtain ⟨a, vs, e2, hq, hr⟩ := RpH.tup (H := H) (.inl (show Rp K T S (.tup (w.map D.str)) u from h)) e
      rw [rps_strs hr] at hq
      exact ⟨⟨a, e2, hq⟩, h⟩
    | succ i => exact z2 i w' v (by simpa using h1) (by simpa using h2)
theorem rps_of_at {K : PySem.W.Frag} {T : Tb} {S : Hp} {f : V → D} : ∀ {ys : List V}, (∀ y ∈ ys, Rp K T S (f y) y) → Rps K T S (ys.map f) ys
  | [], _ => rfl
  | y :: ys, h => ⟨y, ys, rfl, h y List.mem_cons_self, rps_of_at fun z hz => h z (List.mem_cons_of_mem _ hz)⟩
theorem p_sortedT {K : PySem.W.Frag} {T : Tb} : PrimNF K T (rSortAT K) sortedTF := fun S H xs ds d Q e h hg g => by
  unfold sortedTF at hg
  split at hg
  case h_2 => cases hg
  case h_1 x =>
  split at hg
  case h_2 => cases hg
  case h_1 xs' hi =>
  split at hg
  · rename_i ds' hds
    cases hg
    exact .inl (p_sorted S H xs [x] d Q e h (by show (match x.items? with | some xs => sortDs xs | none => none) = _; rw [hi]; exact hds) g)
  · split at hg
    case h_2 => cases hg
    rename_i l
    split at hg
    case h_2 => cases hg
    rename_i wss hw
    split at hg
    case isFalse => cases hg
    rename_i hc
    cases hg
    cases hi
    obtain ⟨u, rfl, hu⟩ := h.one
    obtain ⟨a, vs, rfl, hq, hr⟩ := hu.lst e
    rw [tupsStrs_of hw] at hr
    obtain ⟨hl, hat⟩ := rps_tups e hr
    have ex : ∀ v ∈ vs, ∃ w, w ∈ wss ∧ TupS K H v w ∧ Rp K T S (dTup w) v := fun v hv => by
      obtain ⟨i, hi, rfl⟩ := List.getElem_of_mem hv
      have hi' : i < wss.length := by rw [hl]; exact hi
      exact ⟨wss[i], List.getElem_mem hi', hat i _ _ (List.getElem?_eq_getElem hi') (List.getElem?_eq_getElem hi)⟩
    classical
    let rb : V → List Str := fun v => if hv : v ∈ vs then (ex v hv).choose else []
    have rb_at : ∀ v ∈ vs, TupS K H v (rb v) ∧ Rp K T S (dTup (rb v)) v := fun v hv => by
      simp only [rb, dif_pos hv]
      exact (ex v hv).choose_spec.2
    refine .inr ⟨a, vs, rfl, SqL.of hq, fun v hv => ⟨_, (rb_at v hv).1⟩, fun h2 v hv => ?_, fun ys p fn hp hs hpn => ?_⟩
    · obtain ⟨w, hwm, ht, _⟩ := ex v hv
      rcases Bool.or_eq_true_iff.mp hc with c | c
      · have := of_decide_eq_true c; omega
      · have := List.all_eq_true.mp c w hwm
        cases w with
        | nil => cases this
        | cons z zs => exact ⟨z, zs, ht⟩
    · have rb_map : vs.map rb = wss := by
        refine List.ext_getElem? fun i => ?_
        rw [List.getElem?_map]
        cases hv : vs[i]? with
        | none => rw [List.getElem?_eq_none_iff] at hv; simp [List.getElem?_eq_none_iff, hl, hv]
        | some v =>
          have hvm := List.mem_of_getElem? hv
          cases hw' : wss[i]? with
          | none => rw [List.getElem?_eq_none_iff, hl] at hw'; obtain ⟨hlt, _⟩ := List.getElem?_eq_some_iff.mp hv; omega
          | some w => exact congrArg some (fn _ _ _ (rb_at v hvm).1 (hat i w v hw' hv).1)
      have key : ys.map rb = sortTs wss := by
        refine uniq_tups (((hp.map rb).trans (by rw [rb_map])).trans (sortTs_perm wss).symm) ?_ (sortTs_sorted wss)
        rw [List.pairwise_map]
        refine List.Pairwise.imp_of_mem (fun {x y} hx hy z => z _ _ (rb_at x (hp.mem_iff.mp hx)).1 (rb_at y (hp.mem_iff.mp hy)).1) hs
      have hR : Rps K T S ((sortTs wss).map dTup) ys := by
        rw [← key, List.map_map]
        exact rps_of_at fun y hy => (rb_at y (hp.mem_iff.mp hy)).2
      exact g.new e hR p hpn
end Lq
namespace Lq
open PySem PySem.Spec PyProof.Rows L2
/-! ### tuple(text) -/
def signs (z : Str) : List V := z.cps.toList.map fun c => V.str ⟨#[c]⟩
theorem vals_signs {z : Str} {acc : Array Value} (h : ItemsOf (SignAt z) acc z.cps.size) : Vals (signs z) acc.toList := by
  have go : ∀ (l : List Nat) (us : List Value), l.length = us.length → (∀ (i : Nat) (c : Nat), l[i]? = some c → ∃ t, us[i]? = some (Value.str ⟨#[c]⟩ t)) → Vals (l.map fun c => V.str ⟨#[c]⟩) us := by
    intro l
    induction l with
    | nil => intro us hl _; cases us with | nil => exact .nil | cons _ _ => simp at hl
    | cons c l ih =>
      intro us hl h
      cases us with
      | nil => simp at hl
      | cons u us =>
        obtain ⟨t, ht⟩ := h 0 c rfl
        simp at ht
        subst ht
        exact .cons ⟨t, rfl⟩ (ih us (by simpa using hl) fun i c' hc => by simpa using h (i + 1) c' (by simpa using hc))
  refine go _ _ (by simp [h.1]) fun i c hc => ?_
  have hi : i < z.cps.size := by have := (List.getElem?_eq_some_iff.mp hc).1; simpa using this
  have hi2 : i < acc.size := by rw [h.1]; exact hi
  obtain ⟨c', u, h1, h2⟩ := h.2 i acc[i] (by simp [hi2])
  have : c' = c := by
    rw [Array.getElem?_toList] at hc
    rw [hc] at h1; exact (Option.some.inj h1).symm
  subst this
  exact ⟨u, by rw [Array.getElem?_toList]; simp [hi2, h2]⟩
def rTupA (K : PySem.W.Frag) : List V → Hp → VK → Prop := fun xs H Q => (∃ p ys, xs = [.ref p] ∧ ((SqL K H p ys ∧ ∀ l, H l = none → Q (.ref l) (upd H l (.tup ys))) ∨ (SqT K H p ys ∧ Q (.ref p) H))) ∨ (∃ z : Str, xs = [.str z] ∧ z.length ≤ sizeLine ∧ ∀ l, H l = none → Q (.ref l) (upd H l (.tup (signs z))))
theorem call_tupleA {X : Cx} (hc : X.calm = true) : CallR X (.type "tuple") (rTupA X.K) := by
  intro pins s σ H xs us Q I r h
  rcases h with h | ⟨z, rfl, hz, q⟩
  · exact call_tuple_of pins s σ H xs us Q I r h
  · obtain ⟨u, rfl, ru⟩ := vals1 r
    obtain ⟨t, rfl⟩ := ru
    refine call_tuple_str (I.ok.hd hc) z t (fun h' tk acc hk ha => ?_) hz
    have I1 : Inv X pins σ H { s with heap := h', toks := tk } := I.kept (t' := tk) hk
    have rv := vals_signs ha
    have I2 : Inv X pins σ (upd H h'.objs.size (.tup (signs z))) { s with heap := h'.push { cls := .type "tuple", data := .seq acc }, toks := tk } :=
      I1.laid (t' := tk) (fun b o e => Heap.get?_push_of_some _ e) (Nat.le_refl _) (show ObjOk X.prog X.w _ _ _ (.tup (signs z)) from ⟨by unfold signs; rw [List.length_map, Array.length_toList]; exact hz, acc.toList, rv, by simpa using IsTup.new h' acc⟩)
    exact ⟨.ref h'.objs.size, _, I2, rfl, q _ (I1.hok.fresh (Nat.le_refl _))⟩
def tupleTD : List D → Option D
  | [.str z] => if fits z.length then some (.tup (chars z)) else none
  | xs => tupleD xs
theorem chars_rps {K : PySem.W.Frag} {T : Tb} {S : Hp} (z : Str) : Rps K T S (chars z) (signs z) := by
  unfold chars signs
  have : ∀ l : List Nat, Rps K T S (l.map fun c => D.str ⟨#[c]⟩) (l.map fun c => V.str ⟨#[c]⟩) := fun l => by
    induction l with
    | nil => exact rfl
    | cons c l ih => exact ⟨_, _, rfl, rfl, ih⟩
  exact this _
theorem p_tupleT {K : PySem.W.Frag} {T : Tb} : PrimN K T (rTupA K) tupleTD := fun S H xs ds d Q e h hg g => by
  unfold tupleTD at hg
  split at hg
  · rename_i z
    split at hg
    · rename_i hf
      cases hg
      obtain ⟨u, rfl, hu⟩ := h.one
      obtain rfl := hu.str
      exact .inr ⟨z, rfl, fits_line hf, fun l hl => g.newT e (chars_rps z) l hl⟩
    · cases hg
  · exact .inl (p_tuple S H xs _ d Q e h hg g)
/-! ### x = y, y a list of its own slot: it is not changed any more -/
def mvS (i j : Nat) : Rho → O := fun ρ => match ρ[j]? with
  | some (.m xs) => .nx ((ρ.set j (.d (.lst xs))).set i (.d (.lst xs)))
  | _ => asgS i (nameE j) ρ
section
variable {X : Cx} {T : Tb} {W : WX} {pos : Pos}
theorem xs_mv (i j : Nat) {x y : Str} {pos' py : Pos} (hN : X.N.Nodup) (he : XE X T W (.Name y py) (nameE j)) (hi : X.N[i]? = some x := by rfl) (hx : Loc X.env.scope x := by first | exact Or.inl rfl | exact Or.inr rfl) (hs : swapsWith (.Name y py) (some (.Name x pos')) pos.line X.env = pure false := by rfl)
    (hf : X.fn x = true ∨ X.env.scope.names.lookup x = some .local := by first | exact .inl rfl | exact .inr rfl) : XS X T W (.Assign [.Name x pos'] (.Name y py) pos) (mvS i j) := (xs_set i hN he hi hx hs hf).impQ fun De σ H q => by
  obtain ⟨β, G, S, ρ, o, p⟩ := q
  unfold mvS at p
  cases hq : ρ[j]? with
  | none => rw [hq] at p; exact ⟨β, G, S, ρ, o, p⟩
  | some c =>
    cases c with
    | m xs =>
      rw [hq] at p
      obtain ⟨a, vs, e1, e2, e3, r, o'⟩ := o.frzSlot hq
      refine ⟨β, G, _, _, o', ?_⟩
      have hj : j < ρ.length := (List.getElem?_eq_some_iff.mp hq).1
      have en : nameE j (ρ.set j (.d (.lst xs))) = .ok (.d (.lst xs)) (ρ.set j (.d (.lst xs))) := by
        unfold nameE; rw [List.getElem?_set_self hj]
      unfold asgS
      rw [en]
      exact fun S' σ' H' e o'' => p S' σ' H' ((same_new e3).trans e) o''
    | _ => rw [hq] at p; exact ⟨β, G, S, ρ, o, p⟩
end
end Lq
namespace Lq
open PySem PySem.Spec PyProof.Rows L2
/-! ### C.m(e, ..), m a staticmethod of the class C -/
structure SMet (K : PySem.W.Frag) (C : Addr) (m : Str) (g : Addr) : Prop where
  rd : PySem.W.readsIn K C (.type "type") = true
  ga : PySem.W.specialIn K (.ref C) "__getattribute__" = some (some (.builtin "type.__getattribute__"))
  at_ : ∃ p rest, PySem.W.findCls K (.ref C) (.type "type") m = some (.get (.builtin "staticmethod.__get__") (.ref p) .none (.ref C)) ∧ PySem.W.recIn K p "staticmethod" = some (.ref g :: rest)
  kp : PySem.W.keepIn K (.ref g) = true
section
variable {X : Cx} {T : Tb} {W : WX} {C g : Addr} {k n : Nat} {fd : FuncData} {ps : List Str} {x m : Str} {p pos apos : Pos} {e : Expr} {es : List Expr} {pl : Sem Bool} {F : List D → Res} {fs : Rho → R (List VD)}
theorem xe_static (s0 : SMet X.K C m g) (Fk : FnOk X.prog X.w X.K X.mg X.base (L2.CX X.prog X.w) k g fd ps (spP X.K T n F)) (hr : Room k X.A) (hm : X.mg x = some (.ref C)) (hb : Binds X.K fd ps []) (tk : Takes X W) (hn : ∀ ds, F ds ≠ .bad → ds.length = n) (ha : XA X T W (e :: es) fs) (hg : L2.Gl X x := by rfl) (hdb : (x == ("__debug__" : Str)) = false := by decide)
    (hst : starEach (e :: es) X.env = (false, eval e X.env) :: starEach es X.env := by rfl) (hpl : (backTo pos (starEach es X.env)).any (·.1) = false := by rfl)
    (ht : eval (.Call (.Attribute (.Name x p) m apos) (e :: es) [] pos) X.env = (do
      let ov ← eval (.Name x p) X.env
      standAt apos.atName
      let (f, first) ← holding [ov] (getMethod ov m pl)
      callWith pos f first (backTo pos (starEach (e :: es) X.env)) (backToKw pos (keywordEach [] X.env))) := by rfl) :
    XE X T W (.Call (.Attribute (.Name x p) m apos) (e :: es) [] pos) (callE F fs) := by
  have key : PE X (.Call (.Attribute (.Name x p) m apos) (e :: es) [] pos) (tCallS (spP X.K T n F) (WE W) (rA X.K T W fs)) := by
    refine ⟨fun pins s σ H Q I h => ?_⟩
    refine PySem.W.methodCall_KW (pl := pl) (ld_glob I hg hm ?_ hdb) ht
    obtain ⟨q, rest, h1, h2⟩ := s0.at_
    refine PySem.W.method_cls I.kIn s0.ga ?_
    refine PySem.W.cls_bind I.kIn s0.rd h1 (wpAny_call (PySem.W.sm_get (s := { s with toks := s.toks + 1 }) I.kIn h2 (PySem.W.handed_on rfl ?_)))
    have I1 : Inv X pins σ H { s with toks := s.toks + 1 } := I.tok _
    refine PySem.W.callWith_K (h₀ := X.base) I.ok.mod.kin s0.kp (thn (ha.run pos pins _ σ H _ I1 h) fun us s1 ⟨vs, H1, I2, r, q⟩ => ⟨I2.kIn, ?_⟩) hst hpl
    exact wpAny_call (run_sub (Fk.raw hb .nil) hr I2.env0 (passAt tk σ) I2 r (by simpa using q))
  exact key.impQ fun _ _ _ h => call_of hn h
end
end Lq
namespace Lq
open PySem PySem.Spec PyProof.Rows L2
/-! ### own len(x), x + y; isinstance(x, C) -/
section
variable {X : Cx} {T : Tb} {W : WX} {t : Nat}
def rLenT (K : PySem.W.Frag) (T : Tb) (t : Nat) (F : List D → Res) : List V → Hp → VK → Prop := fun xs H Q => ∃ a dx vs, xs = [.ref a] ∧ SlX.Slt H a (T t) dx vs ∧ spP K T 1 F ([.ref a] ++ []) H (fun z H' => ∃ n : Nat, z = .int n ∧ n < 1000000000 ∧ Q (.int n) H') (fun _ _ _ => False)
theorem call_lenT {g : Addr} {F : List D → Res} {k : Nat} {fd : FuncData} {ps : List Str} (m : MethF X.K (T t) "__len__" g) (Fk : FnOk X.prog X.w X.K X.mg X.base (L2.CX X.prog X.w) k g fd ps (spP X.K T 1 F)) (hb : Binds X.K fd ps []) (hr : Room (k + 1) X.A) : CallR X (.builtin "len") (rLenT X.K T t F) := by
  intro pins s σ H xs us Q I r h
  obtain ⟨a, dx, vs, rfl, hsl, q⟩ := h
  obtain ⟨u, rfl, ru⟩ := vals1 r
  obtain rfl : u = Value.ref a := ru
  obtain ⟨sl, od, _, J, _⟩ := SlX.slt_inst I hsl
  refine Calls.call_function_entry PySem.kind_len PySem.plain_len PySem.entry_len (PySem.args_len1 _) ?_
  unfold Builtin.«len»
  refine wpAny_bind (m := oneArg "len" _) (wpAny_pure ?_)
  refine wpAny_bind (m := callSpecial? (.ref a) (PySem.Str.ofString "__len__")) (PySem.W.special_fn I.kIn J m.at_ (beq_iff_eq.mp m.fn) (wpAny_mono (wpAny_call (run_sub (us := [.ref a]) (ws := [.ref a]) (σ := σ) (Fk.raw hb .nil) hr.in1 I.env0.in1 (E := fun _ _ _ => False) (fun _ _ _ _ _ _ z => (cx_no z).elim) I (.cons rfl .nil) q)) (fun v s' z => ?_) fun _ _ z => z))
  obtain ⟨z', H', I', rz, n, ez, hn, qz⟩ := z
  subst ez
  obtain ⟨tk, rfl⟩ := (show ∃ tk, v = Value.int n tk from rz)
  refine wpAny_bind (wpAny_holding (wpAny_pure ?_))
  refine wpAny_bind (wpAny_letGo ?_)
  show wpAny _ _ (if ((n : Nat) : Int) < 0 then _ else _) _ _ _
  rw [if_neg (by omega)]
  show wpAny _ _ (if ((n : Nat) : Int) ≥ 2 ^ 63 then _ else _) _ _ _
  rw [if_neg (by omega)]
  exact wpAny_bind (wpAny_mkInt (wpAny_pure ⟨_, rfl, .int n, H', I'.tok _, ⟨_, rfl⟩, qz⟩))
def lenTD (t : Nat) (F : List D → Res) : List D → Option D
  | [.obj t' fs] => if t' = t then (match F [.obj t' fs] with | .ok (.int n) => if decide (0 ≤ n) && decide (n < 1000000000) then some (.int n) else none | _ => none) else none
  | xs => lenD xs
def rLenAT (K : PySem.W.Frag) (T : Tb) (t : Nat) (F : List D → Res) : List V → Hp → VK → Prop := fun xs H Q => rLenT K T t F xs H Q ∨ (∃ x n, xs = [x] ∧ LenV K x H n ∧ Q (.int n) H)
theorem call_lenAT {g : Addr} {F : List D → Res} {k : Nat} {fd : FuncData} {ps : List Str} (m : MethF X.K (T t) "__len__" g) (Fk : FnOk X.prog X.w X.K X.mg X.base (L2.CX X.prog X.w) k g fd ps (spP X.K T 1 F)) (hb : Binds X.K fd ps []) (hr : Room (k + 1) X.A) : CallR X (.builtin "len") (rLenAT X.K T t F) := (call_lenT m Fk hb hr).or call_len
theorem p_lenT {K : PySem.W.Frag} {F : List D → Res} (ht : isEx t = false) : PrimN K T (rLenAT K T t F) (lenTD t F) := fun S H xs ds d Q e h hg g => by
  unfold lenTD at hg
  split at hg
  · rename_i t' fs
    split at hg
    · rename_i hh
      subst hh
      split at hg
      · rename_i n hF
        split at hg
        · rename_i hc
          cases hg
          rw [Bool.and_eq_true] at hc
          have h0 := of_decide_eq_true hc.1
          have h1 := of_decide_eq_true hc.2
          obtain ⟨u, rfl, hu⟩ := h.one
          obtain ⟨a, dx, vs, rfl, sl, _, rp⟩ := obj_at ht e hu
          refine .inl ⟨a, dx, _, rfl, sl, S, [.obj _ fs], e, ⟨_, [], rfl, rp, rfl⟩, rfl, ?_⟩
          rw [hF]
          intro S' H' v e' rv
          obtain rfl : v = .int n := rv
          refine ⟨n.toNat, by rw [Int.toNat_of_nonneg h0], by omega, ?_⟩
          rw [Int.toNat_of_nonneg h0]
          exact g S' H' (.int n) e' rfl
        · cases hg
      · cases hg
    · cases hg
  · exact .inr (p_len S H xs _ d Q e h hg g)
/-- isinstance(x, C), x of the class C -/
def isTD (t : Nat) : D → Option D
  | .obj t' _ => if t' = t then some (.bl true) else none
  | _ => none
variable {e : Expr} {fa : Rho → R VD} {p p2 pos : Pos}
theorem xe_isT {x : Str} (ht : isEx t = false) (sc : SlX.SCls X.K (T t)) (si : SlX.SIsi X.K (T t)) (hk : PySem.W.kitOne X.K (.ref (T t)) (.ref (T t)) = some true) (hz : X.mg "isinstance" = none) (hm : X.mg x = some (.ref (T t))) (ha : XE X T W e fa) (hgx : L2.Gl X x := by rfl) (hdx : (x == ("__debug__" : Str)) = false := by decide)
    (hg : L2.Gl X "isinstance" := by rfl) (he : starEach [e, .Name x p2] X.env = (false, eval e X.env) :: starEach [.Name x p2] X.env := by rfl) (he2 : starEach [.Name x p2] X.env = (false, eval (.Name x p2) X.env) :: starEach [] X.env := by rfl) :
    XE X T W (.Call (.Name "isinstance" p) [e, .Name x p2] [] pos) (op1E (isTD t) fa) :=
  (pe_callB (SlX.call_isiSl (.ref (T t))) hg hz (by decide +kernel) (pa_cons ha (pa_cons (pe_glob (v := .ref (T t)) hgx hm rfl hdx) pa_nil he2) he) (by decide) (by decide) he (by rw [he2]; rfl)).impQ fun σ H Q h => by
    obtain ⟨β, G, S, ρ, o, p⟩ := h
    refine ⟨β, G, S, ρ, o, Post.thn (Rl := RpV X.K T σ) p fun S1 H1 ρ1 v u e1 o1 h1 p1 => ?_⟩
    refine Post.lift1 (r := fun x H1 Q => SlX.rIsiSl X.K (.ref (T t)) [x, .ref (T t)] H1 Q) ?_ o1 h1 p1
    intro S H x dx d Q e hx hd g
    unfold isTD at hd
    split at hd
    · rename_i t' fs
      split at hd
      · rename_i hh
        subst hh
        cases hd
        obtain ⟨a, dx', vs, rfl, sl, _, rp⟩ := obj_at ht e hx
        exact ⟨a, _, dx', _, .ref (T t'), true, rfl, rfl, fun _ z => z, sl, sc, si, hk, g.now e rfl⟩
      · cases hd
    · cases hd
/-- x + y by the class's own __add__ -/
def rAddT (K : PySem.W.Frag) (T : Tb) (t : Nat) (F : List D → Res) : R2 := fun x y H Q => (∃ a dx vs b dy ws, x = .ref a ∧ y = .ref b ∧ SlX.Slt H a (T t) dx vs ∧ SlX.Slt H b (T t) dy ws ∧ spP K T 2 F ([x, y] ++ []) H Q (fun _ _ _ => False)) ∨ rAdd4 K x y H Q
theorem op_addT {g : Addr} {F : List D → Res} {k : Nat} {fd : FuncData} {ps : List Str} (m : MethF X.K (T t) "__add__" g) (hs : PySem.W.selfFirst X.K (T t) = true) (Fk : FnOk X.prog X.w X.K X.mg X.base (L2.CX X.prog X.w) k g fd ps (spP X.K T 2 F)) (hb : Binds X.K fd ps []) (hr : Room k X.A) : OpR X (binaryOp .Add) (rAddT X.K T t F) := by
  intro pins s σ H x y v u Q I rx ry h
  rcases h with ⟨a, dx, vs, b, dy, ws, rfl, rfl, h1, h2, q⟩ | h
  · cases (show v = Value.ref a from rx)
    cases (show u = Value.ref b from ry)
    obtain ⟨sl, od, _, J, _⟩ := SlX.slt_inst I h1
    obtain ⟨sl', od', _, J', _⟩ := SlX.slt_inst I h2
    obtain ⟨mm, hF⟩ := I.fr
    refine PySem.W.binop_K hF I.ok.mod.kin J J'.type hs m.at_ m.fn ?_
    refine wpAny_mono (wpAny_call (run_sub (us := [.ref a, .ref b]) (ws := [.ref a, .ref b]) (σ := σ) (Fk.raw hb .nil) hr I.env0 (E := fun _ _ _ => False) (fun _ _ _ _ _ _ z => (cx_no z).elim) I (.cons rfl (.cons rfl .nil)) q)) (fun w s' z => ?_) fun _ _ z => z
    obtain ⟨z', H', I', rz, qz⟩ := z
    exact SlX.cmpback rz ⟨z', H', I', rz, qz⟩
  · exact op_addA pins s σ H x y v u Q I rx ry h
def addTD (t : Nat) (F : List D → Res) : D → D → Option D
  | .obj t1 fs, .obj t2 gs => if t1 = t ∧ t2 = t then (match F [.obj t1 fs, .obj t2 gs] with | .ok d => some d | _ => none) else none
  | x, y => addD x y
theorem p_addT {K : PySem.W.Frag} {F : List D → Res} (ht : isEx t = false) : Prim2 K T (rAddT K T t F) (addTD t F) := fun S H x y dx dy d Q e hx hy h g => by
  unfold addTD at h
  split at h
  · rename_i t1 fs t2 gs
    split at h
    · rename_i hh
      obtain ⟨rfl, rfl⟩ := hh
      split at h
      · rename_i d' hF
        cases h
        obtain ⟨a, dx, vs, rfl, sl, _, rp⟩ := obj_at ht e hx
        obtain ⟨b, dy, ws, rfl, sl', _, rp'⟩ := obj_at ht e hy
        exact .inl ⟨a, dx, _, b, dy, _, rfl, rfl, sl, sl', S, [.obj _ fs, .obj _ gs], e, ⟨_, _, rfl, rp, _, [], rfl, rp', rfl⟩, rfl, by rw [hF]; exact g⟩
      · cases h
    · cases h
  · exact .inr (p_add S H x y dx dy d Q e hx hy h g)
end
end Lq
namespace Lq
open PySem
/-! ### mirrors evaluated step by step -/
section
variable {ρ ρ1 ρ2 ρ3 : Rho} {fa fb fo : Rho → R VD} {fs : Rho → R (List VD)} {ff fg : Rho → R (List D)} {ft fu : Rho → R Bool} {v w : VD} {vs ws : List VD} {x y d : D} {xs ys ds : List D} {a b : Bool} {i j : Nat}
theorem ev_name (h : ρ[i]? = some (.d x)) : nameE i ρ = .ok (.d x) ρ := by simp only [nameE, h]
theorem ev_nameM (h : ρ[i]? = some (.m xs)) : nameE i ρ = .ok (.sl i) ρ := by simp only [nameE, h]
theorem ev_nameB {ns : List Int} (h : ρ[i]? = some (.b ns)) : nameE i ρ = .ok (.sl i) ρ := by simp only [nameE, h]
theorem ev_const : constE d ρ = .ok (.d d) ρ := rfl
theorem ev_op1 {g : D → Option D} (h1 : fa ρ = .ok v ρ1) (r1 : res v ρ1 = some x) (hg : g x = some d) : op1E g fa ρ = .ok (.d d) ρ1 := by simp only [op1E, h1, R.bind, lift1, r1, hg]
theorem ev_op2 {g : D → D → Option D} (h1 : fa ρ = .ok v ρ1) (h2 : fb ρ1 = .ok w ρ2) (r1 : res v ρ2 = some x) (r2 : res w ρ2 = some y) (hg : g x y = some d) : op2E g fa fb ρ = .ok (.d d) ρ2 := by simp only [op2E, h1, h2, R.bind, lift2, r1, r2, hg]
theorem ev_opN {g : List D → Option D} (h1 : fs ρ = .ok vs ρ1) (r1 : resAll vs ρ1 = some xs) (hg : g xs = some d) : opNE g fs ρ = .ok (.d d) ρ1 := by simp only [opNE, h1, R.bind, liftN, r1, hg]
theorem ev_opNF {g : List D → Option (List D)} (h1 : fs ρ = .ok vs ρ1) (r1 : resAll vs ρ1 = some xs) (hg : g xs = some ds) : opNF g fs ρ = .ok ds ρ1 := by simp only [opNF, h1, R.bind, r1, hg]
theorem ev_op2F {g : D → D → Option (List D)} (h1 : fa ρ = .ok v ρ1) (h2 : fb ρ1 = .ok w ρ2) (r1 : res v ρ2 = some x) (r2 : res w ρ2 = some y) (hg : g x y = some ds) : op2F g fa fb ρ = .ok ds ρ2 := by simp only [op2F, h1, h2, R.bind, r1, r2, hg]
theorem ev_nilA : nilA ρ = .ok [] ρ := rfl
theorem ev_consA (h1 : fa ρ = .ok v ρ1) (h2 : fs ρ1 = .ok vs ρ2) : consA fa fs ρ = .ok (v :: vs) ρ2 := by simp only [consA, h1, h2, R.bind]
theorem ev_starA (h1 : fa ρ = .ok v ρ1) (r1 : res v ρ1 = some x) (hx : x.items? = some xs) (h2 : fs ρ1 = .ok vs ρ2) : starA fa fs ρ = .ok (xs.map VD.d ++ vs) ρ2 := by simp only [starA, h1, r1, hx, h2, R.bind, Option.bind]
theorem ev_dfA : dfA d ρ = .ok [.d d] ρ := rfl
theorem ev_permA {n : Nat} {pm : List Nat} (h1 : fs ρ = .ok vs ρ1) (hn : vs.length = n) : permA n pm fs ρ = .ok (permL pm vs) ρ1 := by simp only [permA, h1, R.bind, hn, if_true]
theorem ev_frz (h : ff ρ = .ok ds ρ1) : frzE ff ρ = .ok (.d (.lst ds)) ρ1 := by simp only [frzE, h, R.bind]
theorem ev_tup (h : fs ρ = .ok vs ρ1) (hd : datAll vs = some ds) (hf : ds.length ≤ 1000000) : tupE fs ρ = .ok (.d (.tup ds)) ρ1 := by simp only [tupE, h, R.bind, hd, fits, decide_eq_true hf, if_true]
theorem ev_lst (h : fs ρ = .ok vs ρ1) (hd : datAll vs = some ds) (hf : ds.length ≤ 1000000) : lstF fs ρ = .ok ds ρ1 := by simp only [lstF, h, R.bind, hd, fits, decide_eq_true hf, if_true]
theorem ev_ifF1 (h : ft ρ = .ok b ρ1) (hb : b = true) (h2 : ff ρ1 = .ok ds ρ2) : ifF ft ff fg ρ = .ok ds ρ2 := by simp only [ifF, h, R.bind, hb, if_true, h2]
theorem ev_ifF2 (h : ft ρ = .ok b ρ1) (hb : b = false) (h2 : fg ρ1 = .ok ds ρ2) : ifF ft ff fg ρ = .ok ds ρ2 := by simp [ifF, h, R.bind, hb, h2]
theorem ev_call {F : List D → Res} (h : fs ρ = .ok vs ρ1) (r : resAll vs ρ1 = some ds) (hF : F ds = .ok d) (hs : (slotted vs && !d.noL) = false) : callE F fs ρ = .ok (.d d) ρ1 := by simp [callE, h, R.bind, r, hF, hs]
theorem ev_callX {F : List D → Res} {e : Xn} (h : fs ρ = .ok vs ρ1) (r : resAll vs ρ1 = some ds) (hF : F ds = .err e) (hs : (slotted vs && !(noLs e.fs)) = false) : callE F fs ρ = .err e ρ1 := by simp [callE, h, R.bind, r, hF, hs]
theorem ev_callZ {F : List D → Res} (h : fs ρ = .ok vs ρ1) (r : resAll vs ρ1 = some ds) (hF : F ds = .ok d) (hs : (slotted vs && !d.noL) = true) (hz : frzAll vs ρ1 = some ρ2) : callE F fs ρ = .ok (.d d) ρ2 := by simp [callE, h, R.bind, r, hF, hs, hz]
theorem ev_callB {F : List Int → List D → Option (D × List Int)} {ns ns' : List Int} (h : fs ρ = .ok (.sl i :: ws) ρ1) (hb : ρ1[i]? = some (.b ns)) (hd : datAll ws = some ds) (hF : F ns ds = some (d, ns')) (ho : onlyB i ρ1 = true) (hn : ρ1.set i (.b ns') = ρ2) : callBE F fs ρ = .ok (.d d) ρ2 := by simp only [callBE, h, R.bind, hb, hd, ho, hF, if_true, hn]
theorem ev_app {xs0 : List D} (h0 : ρ[i]? = some (.m xs0)) (h : fs ρ = .ok [.d y] ρ1) (h1 : ρ1[i]? = some (.m xs)) (hf : xs.length + 1 ≤ 1000000) (hn : ρ1.set i (.m (xs ++ [y])) = ρ2) : appE i fs ρ = .ok (.d .non) ρ2 := by simp only [appE, h0, h, R.bind, h1, fits, decide_eq_true hf, if_true, hn]
theorem ev_ext {xs0 : List D} (h0 : ρ[i]? = some (.m xs0)) (h : fs ρ = .ok [.d (.lst ys)] ρ1) (h1 : ρ1[i]? = some (.m xs)) (hf : xs.length + ys.length ≤ 1000000) (hn : ρ1.set i (.m (xs ++ ys)) = ρ2) : extE i fs ρ = .ok (.d .non) ρ2 := by simp only [extE, h0, h, R.bind, h1, fits, decide_eq_true hf, if_true, hn]
theorem ev_pop {xs0 : List D} {k : Nat} (h0 : ρ[i]? = some (.m xs0)) (h : fs ρ = .ok [.d (.int k)] ρ1) (h1 : ρ1[i]? = some (.m xs)) (hk : k < 1000000) (hx : xs[k]? = some y) (hn : ρ1.set i (.m (xs.eraseIdx k)) = ρ2) : popE i fs ρ = .ok (.d y) ρ2 := by
  simp [popE, h0, h, R.bind, h1, hx, hn, show (k : Int) < 1000000 by omega]
theorem ev_rem {xs0 : List D} {wl : List Str} {z : Str} (h0 : ρ[i]? = some (.m xs0)) (h : fs ρ = .ok [.d (.str z)] ρ1) (h1 : ρ1[i]? = some (.m xs)) (hs : asStrs xs = some wl) (hz : z ∈ wl) (hn : ρ1.set i (.m ((wl.erase z).map D.str)) = ρ2) : remE i fs ρ = .ok (.d .non) ρ2 := by
  simp only [remE, h0, h, R.bind, h1, hs, hz, if_true, hn]
theorem ev_noPart : noPart ρ = .ok none ρ := rfl
theorem ev_aPart {k : Int} (h : fa ρ = .ok (.d (.int k)) ρ1) : aPart fa ρ = .ok (some k) ρ1 := by simp only [aPart, h, R.bind]
theorem ev_sl {fl fh : Rho → R (Option Int)} {l h : Option Int} (h1 : fa ρ = .ok v ρ1) (h2 : fl ρ1 = .ok l ρ2) (h3 : fh ρ2 = .ok h ρ3) (r : res v ρ3 = some x) (hc : cutD x l h = some d) : slE fa fl fh ρ = .ok (.d d) ρ3 := by simp only [slE, h1, h2, h3, R.bind, r, hc]
theorem ev_ixT {F : List D → Res} {t : Nat} {fl : List D} {k : Int} (h1 : fa ρ = .ok v ρ1) (h2 : fb ρ1 = .ok w ρ2) (r1 : res v ρ2 = some (.obj t fl)) (r2 : res w ρ2 = some (.int k)) (hF : F [.obj t fl, .int k] = .ok d) : ixTE t F fa fb ρ = .ok (.d d) ρ2 := by simp only [ixTE, h1, h2, R.bind, r1, r2, if_true, hF]
theorem ev_ixX {F : List D → Res} {t : Nat} {fl : List D} {k : Int} {e : Xn} (h1 : fa ρ = .ok v ρ1) (h2 : fb ρ1 = .ok w ρ2) (r1 : res v ρ2 = some (.obj t fl)) (r2 : res w ρ2 = some (.int k)) (hF : F [.obj t fl, .int k] = .err e) : ixTE t F fa fb ρ = .err e ρ2 := by simp only [ixTE, h1, h2, R.bind, r1, r2, if_true, hF]
/-! tests -/
theorem ev_val (h : fa ρ = .ok (.d (.bl b)) ρ1) : valT fa ρ = .ok b ρ1 := by simp only [valT, h, R.bind]
theorem ev_notT (h : ft ρ = .ok b ρ1) : notT ft ρ = .ok (!b) ρ1 := by simp only [notT, h, R.bind]
theorem ev_and1 (h : ft ρ = .ok b ρ1) (hb : b = false) : andT ft fu ρ = .ok false ρ1 := by simp [andT, h, R.bind, hb]
theorem ev_and2 (h : ft ρ = .ok b ρ1) (hb : b = true) (h2 : fu ρ1 = .ok a ρ2) : andT ft fu ρ = .ok a ρ2 := by simp [andT, h, R.bind, hb, h2]
theorem ev_and (h : ft ρ = .ok b ρ1) (h2 : b = true → fu ρ1 = .ok a ρ1) : andT ft fu ρ = .ok (b && a) ρ1 := by cases b <;> simp [andT, h, R.bind, h2]
theorem ev_or1 (h : ft ρ = .ok b ρ1) (hb : b = true) : orT ft fu ρ = .ok true ρ1 := by simp [orT, h, R.bind, hb]
theorem ev_or2 (h : ft ρ = .ok b ρ1) (hb : b = false) (h2 : fu ρ1 = .ok a ρ2) : orT ft fu ρ = .ok a ρ2 := by simp [orT, h, R.bind, hb, h2]
theorem ev_or (h : ft ρ = .ok b ρ1) (h2 : b = false → fu ρ1 = .ok a ρ1) : orT ft fu ρ = .ok (b || a) ρ1 := by cases b <;> simp [orT, h, R.bind, h2]
theorem ev_andE (h : fa ρ = .ok (.d (.bl b)) ρ1) (h2 : b = true → fb ρ1 = .ok (.d (.bl a)) ρ1) : andE fa fb ρ = .ok (.d (.bl (b && a))) ρ1 := by cases b <;> simp [andE, h, R.bind, h2]
theorem ev_orE (h : fa ρ = .ok (.d (.bl b)) ρ1) (h2 : b = false → fb ρ1 = .ok (.d (.bl a)) ρ1) : orE fa fb ρ = .ok (.d (.bl (b || a))) ρ1 := by cases b <;> simp [orE, h, R.bind, h2]
theorem ev_andEt (h : fa ρ = .ok (.d (.bl true)) ρ1) (h2 : fb ρ1 = .ok v ρ2) : andE fa fb ρ = .ok v ρ2 := by simp [andE, h, R.bind, h2]
theorem ev_notE (h : fa ρ = .ok (.d (.bl b)) ρ1) : notE fa ρ = .ok (.d (.bl (!b))) ρ1 := by simp only [notE, h, R.bind]
theorem ev_ifE1 (h : ft ρ = .ok b ρ1) (hb : b = true) (h2 : fa ρ1 = .ok v ρ2) : ifE ft fa fb ρ = .ok v ρ2 := by simp [ifE, h, R.bind, hb, h2]
theorem ev_ifE2 (h : ft ρ = .ok b ρ1) (hb : b = false) (h2 : fb ρ1 = .ok v ρ2) : ifE ft fa fb ρ = .ok v ρ2 := by simp [ifE, h, R.bind, hb, h2]
theorem ev_ifE (h : ft ρ = .ok b ρ1) (h1 : b = true → fa ρ1 = .ok (.d x) ρ1) (h2 : b = false → fb ρ1 = .ok (.d y) ρ1) : ifE ft fa fb ρ = .ok (.d (if b then x else y)) ρ1 := by cases b <;> simp [ifE, h, R.bind, h1, h2]
/-! statements -/
variable {g h : Rho → O} {o o1 o2 : O}
theorem ev_seq (h1 : g ρ = .nx ρ1) (h2 : h ρ1 = o) : seqS g h ρ = o := by simp only [seqS, h1, h2]
theorem ev_seqN (h1 : g ρ = .nx ρ1) (hn : ρ1 = ρ2) (h2 : h ρ2 = o) : seqS g h ρ = o := by simp only [seqS, h1, hn, h2]
theorem ev_seqR (h1 : g ρ = .rt v ρ1) : seqS g h ρ = .rt v ρ1 := by simp only [seqS, h1]
theorem ev_seqX {e : Xn} (h1 : g ρ = .err e ρ1) : seqS g h ρ = .err e ρ1 := by simp only [seqS, h1]
theorem ev_next : nextS ρ = .nx ρ := rfl
theorem ev_asg (h : fa ρ = .ok (.d x) ρ1) : asgS i fa ρ = .nx (ρ1.set i (.d x)) := by simp only [asgS, h, R.thnO]
theorem ev_asgX {e : Xn} (h : fa ρ = .err e ρ1) : asgS i fa ρ = .err e ρ1 := by simp only [asgS, h, R.thnO]
theorem ev_asgM (h : ff ρ = .ok ds ρ1) : asgM i ff ρ = .nx (ρ1.set i (.m ds)) := by simp only [asgM, h, R.thnO]
theorem ev_asgG {gd : D → Rho → Option Rho} (h : fa ρ = .ok (.d x) ρ1) (hg : gd x ρ1 = some ρ2) : asgG gd fa ρ = .nx ρ2 := by simp only [asgG, h, R.thnO, hg]
theorem ev_ret (h : fa ρ = .ok v ρ1) : retS fa ρ = .rt v ρ1 := by simp only [retS, h, R.thnO]
theorem ev_retX {e : Xn} (h : fa ρ = .err e ρ1) : retS fa ρ = .err e ρ1 := by simp only [retS, h, R.thnO]
theorem ev_retF (h : ff ρ = .ok ds ρ1) : retF ff ρ = .rf ds ρ1 := by simp only [retF, h, R.thnO]
theorem ev_drop (h : fa ρ = .ok v ρ1) : dropS fa ρ = .nx ρ1 := by simp only [dropS, h, R.thnO]
theorem ev_dropX {e : Xn} (h : fa ρ = .err e ρ1) : dropS fa ρ = .err e ρ1 := by simp only [dropS, h, R.thnO]
theorem ev_ifS1 (h1 : ft ρ = .ok b ρ1) (hb : b = true) (h2 : g ρ1 = o) : ifS ft g h ρ = o := by simp [ifS, h1, R.thnO, hb, h2]
theorem ev_ifS2 (h1 : ft ρ = .ok b ρ1) (hb : b = false) (h2 : h ρ1 = o) : ifS ft g h ρ = o := by simp [ifS, h1, R.thnO, hb, h2]
theorem ev_put {k : Int} (h1 : fa ρ = .ok (.d y) ρ1) (hm : ρ1[i]? = some (.m ys)) (h2 : fb ρ1 = .ok (.d (.int k)) ρ2) (hx : ρ2[i]? = some (.m xs)) (hk : L2.ixN xs.length k = some j) : putItem i fa fb ρ = .nx (ρ2.set i (.m (xs.set j y))) := by
  simp only [putItem, h1, R.thnO, hm, isMB, if_true, h2, putS1, hx, hk]
theorem ev_aug {f : Int → Int → Int} {m n : Int} (h0 : ρ[i]? = some (.d (.int m))) (h : fa ρ = .ok (.d (.int n)) ρ1) : augS i f fa ρ = .nx (ρ1.set i (.d (.int (f m n)))) := by simp only [augS, h0, h, R.thnO]
theorem ev_raise {t : Nat} (h : fs ρ = .ok [.d d] ρ1) : raiseS t fs ρ = .err ⟨t, [d]⟩ ρ1 := by simp only [raiseS, h, R.thnO, datAll]
theorem ev_raise0 {t : Nat} : raise0S t ρ = .err ⟨t, [.tup []]⟩ ρ := rfl
theorem ev_try {hh : Xn → Rho → O} (h1 : g ρ = .nx ρ1) : tryS g hh ρ = .nx ρ1 := by simp only [tryS, h1]
theorem ev_tryR {hh : Xn → Rho → O} (h1 : g ρ = .rt v ρ1) : tryS g hh ρ = .rt v ρ1 := by simp only [tryS, h1]
theorem ev_tryX {hh : Xn → Rho → O} {e : Xn} (h1 : g ρ = .err e ρ1) (h2 : hh e ρ1 = o) : tryS g hh ρ = o := by simp only [tryS, h1, h2]
theorem ev_hAs {ex : List (Nat × Bool)} {rest : Xn → Rho → O} {t : Nat} {fl : List D} (hl : ex.lookup t = some true) (hi : isEx t = true) (h1 : g (ρ.set i (.d (.obj t fl))) = o1) (h2 : goneS i o1 = o) : hAs ex i g rest ⟨t, fl⟩ ρ = o := by simp only [hAs, hl, hi, if_true, h1, h2]
theorem ev_hAn {ex : List (Nat × Bool)} {rest : Xn → Rho → O} {t : Nat} {fl : List D} (hl : ex.lookup t = some false) (h1 : rest ⟨t, fl⟩ ρ = o) : hAs ex i g rest ⟨t, fl⟩ ρ = o := by simp only [hAs, hl, h1]
theorem ev_for {gd : D → Rho → Option Rho} (h1 : ff ρ = .ok ds ρ1) (h2 : loopS (turnS gd g) ds ρ1 = o) : forS ff gd g ρ = o := by simp only [forS, h1, R.thnO, h2]
theorem ev_turn {gd : D → Rho → Option Rho} (h1 : gd d ρ = some ρ1) (h2 : g ρ1 = o) : turnS gd g d ρ = o := by simp only [turnS, h1, h2]
/-! several at once -/
theorem ev_nilM : nilM ρ = .ok [] ρ := rfl
theorem ev_consMd {fm : Rho → R (List MV)} {ms : List MV} (h : fa ρ = .ok (.d x) ρ1) (h2 : fm ρ1 = .ok ms ρ2) : consMd fa fm ρ = .ok (.d x :: ms) ρ2 := by simp only [consMd, h, h2, R.bind]
theorem ev_consMf {fm : Rho → R (List MV)} {ms : List MV} (h : ff ρ = .ok ds ρ1) (h2 : fm ρ1 = .ok ms ρ2) : consMf' ff fm ρ = .ok (.f ds :: ms) ρ2 := by simp only [consMf', h, h2, R.bind, noErr]
theorem ev_par {is : List Nat} {fm : Rho → R (List MV)} {ms : List MV} (h : fm ρ = .ok ms ρ1) (hl : is.length = ms.length) : parS is fm ρ = .nx (setsR ρ1 is ms) := by simp only [parS, h, R.thnO, hl, if_true]
/-! where a loop goes -/
theorem ev_seqI (h : fa ρ = .ok (.d x) ρ1) (hx : itemsOf x = some ds) : seqI fa ρ = .ok ds ρ1 := by simp only [seqI, h, R.bind, hx]
theorem ev_seqM (h : fa ρ = .ok (.sl i) ρ1) (hx : ρ1[i]? = some (.m xs)) : seqI fa ρ = .ok xs (ρ1.set i (.d (.lst xs))) := by simp only [seqI, h, R.bind, hx]
theorem ev_rng1 {n : Nat} (h : fs ρ = .ok [.d (.int n)] ρ1) (hn : n ≤ 1000000) : rngI1 fs ρ = .ok (rng 0 n) ρ1 := by
  simp [rngI1, h, R.bind, okR_small (i := (n : Int)) (by omega) (by omega)]
theorem ev_enumT {n : Nat} (h : fs ρ = .ok [.d (.tup xs)] ρ1) : enumA fs ρ = .ok (enumD xs) ρ1 := by simp only [enumA, h, R.bind]
theorem ev_enumL {n : Nat} (h : fs ρ = .ok [.d (.lst xs)] ρ1) : enumA fs ρ = .ok (enumD xs) ρ1 := by simp only [enumA, h, R.bind]
/-! defs -/
theorem ev_runF {a n : Nat} {f : Rho → O} (ρ0 : Rho) (h : ∃ ρ, f ρ0 = .rt (.d x) ρ) (hl : ds.length = a := by rfl) (hs : startR n ds = ρ0 := by rfl) : runF a n f ds = .ok x := by obtain ⟨ρ, h⟩ := h; simp only [runF, hl, if_true, hs, h]
theorem ev_runFl {a n : Nat} {f : Rho → O} (ρ0 : Rho) (h : ∃ ρ, f ρ0 = .rf xs ρ) (hl : ds.length = a := by rfl) (hs : startR n ds = ρ0 := by rfl) : runF a n f ds = .ok (.lst xs) := by obtain ⟨ρ, h⟩ := h; simp only [runF, hl, if_true, hs, h]
theorem ev_runFm {a n : Nat} {f : Rho → O} (ρ0 : Rho) (i : Nat) (h : ∃ ρ, f ρ0 = .rt (.sl i) ρ ∧ ρ[i]? = some (.m xs)) (hl : ds.length = a := by rfl) (hs : startR n ds = ρ0 := by rfl) : runF a n f ds = .ok (.lst xs) := by obtain ⟨ρ, h, hx⟩ := h; simp only [runF, hl, if_true, hs, h, hx]
theorem ev_runFn {a n : Nat} {f : Rho → O} (ρ0 : Rho) (h : ∃ ρ, f ρ0 = .nx ρ) (hl : ds.length = a := by rfl) (hs : startR n ds = ρ0 := by rfl) : runF a n f ds = .ok .non := by obtain ⟨ρ, h⟩ := h; simp only [runF, hl, if_true, hs, h]
theorem ev_runFx {a n : Nat} {f : Rho → O} {e : Xn} (ρ0 : Rho) (h : ∃ ρ, f ρ0 = .err e ρ) (hl : ds.length = a := by rfl) (hs : startR n ds = ρ0 := by rfl) : runF a n f ds = .err e := by obtain ⟨ρ, h⟩ := h; simp only [runF, hl, if_true, hs, h]
theorem ev_runB {a n : Nat} {f : Rho → O} {ns ns' : List Int} (ρ0 : Rho) (h : ∃ ρ, f ρ0 = .rt (.d x) ρ ∧ ρ[0]? = some (.b ns')) (hl : ds.length = a := by rfl) (hs : .b ns :: startR n ds = ρ0 := by rfl) : runB a n f ns ds = some (x, ns') := by obtain ⟨ρ, h, hb⟩ := h; simp only [runB, hl, if_true, hs, h, boxAt, hb]
theorem ev_runBl {a n : Nat} {f : Rho → O} {ns ns' : List Int} (ρ0 : Rho) (h : ∃ ρ, f ρ0 = .rf xs ρ ∧ ρ[0]? = some (.b ns')) (hl : ds.length = a := by rfl) (hs : .b ns :: startR n ds = ρ0 := by rfl) : runB a n f ns ds = some (.lst xs, ns') := by obtain ⟨ρ, h, hb⟩ := h; simp only [runB, hl, if_true, hs, h, boxAt, hb]
theorem ev_runBm {a n : Nat} {f : Rho → O} {ns ns' : List Int} (ρ0 : Rho) (i : Nat) (h : ∃ ρ, f ρ0 = .rt (.sl i) ρ ∧ ρ[i]? = some (.m xs) ∧ ρ[0]? = some (.b ns')) (hl : ds.length = a := by rfl) (hs : .b ns :: startR n ds = ρ0 := by rfl) : runB a n f ns ds = some (.lst xs, ns') := by obtain ⟨ρ, h, hx, hb⟩ := h; simp only [runB, hl, if_true, hs, h, hx, boxAt, hb]
theorem nd_t {p : Prop} [Decidable p] (h : ¬ p) : (!decide p) = true := by rw [decide_eq_false h]; rfl
theorem nd_f {p : Prop} [Decidable p] (h : p) : (!decide p) = false := by rw [decide_eq_true h]; rfl
theorem nb_t {q : Bool} (h : q = false) : (!q) = true := by rw [h]; rfl
theorem nb_f {q : Bool} (h : q = true) : (!q) = false := by rw [h]; rfl
/-! data -/
theorem dv_addL (h : xs.length + ys.length ≤ 1000000) : addD (.lst xs) (.lst ys) = some (.lst (xs ++ ys)) := by simp only [addD, fits, decide_eq_true h, if_true]
theorem dv_addT (h : xs.length + ys.length ≤ 1000000) : addD (.tup xs) (.tup ys) = some (.tup (xs ++ ys)) := by simp only [addD, fits, decide_eq_true h, if_true]
theorem dv_cat (h : xs.length + ys.length ≤ 1000000) : catF (.lst xs) (.lst ys) = some (xs ++ ys) := by simp only [catF, fits, decide_eq_true h, if_true]
theorem dv_eqI (m n : Int) : eqD (.int m) (.int n) = some (.bl (decide (m = n))) := by show some (D.bl (m == n)) = _; rfl
theorem dv_neI (m n : Int) : neD (.int m) (.int n) = some (.bl (!decide (m = n))) := by show some (D.bl (!(m == n))) = _; rfl
theorem dv_eqS (m n : Str) : eqD (.str m) (.str n) = some (.bl (decide (m = n))) := by show some (D.bl (m == n)) = _; rfl
theorem dv_neS (m n : Str) : neD (.str m) (.str n) = some (.bl (!decide (m = n))) := by show some (D.bl (!(m == n))) = _; rfl
theorem dv_atL (h : xs[i]? = some y) : atD (.lst xs) (.int (i : Nat)) = some y := by
  have hi := (List.getElem?_eq_some_iff.1 h).1
  simp only [atD, L2.atI, L2.ixN]
  rw [if_pos (by omega), if_pos (by omega)]
  simpa using h
theorem dv_atT (h : xs[i]? = some y) : atD (.tup xs) (.int (i : Nat)) = some y := dv_atL h
theorem datAll_ds : ∀ xs : List D, datAll (xs.map VD.d) = some xs
  | [] => rfl
  | x :: xs => by rw [List.map_cons, datAll, datAll_ds xs]
theorem datAll_dsA : ∀ (xs : List D) (vs : List VD) (ys : List D), datAll vs = some ys → datAll (xs.map VD.d ++ vs) = some (xs ++ ys)
  | [], vs, ys, h => h
  | x :: xs, vs, ys, h => by rw [List.map_cons, List.cons_append, datAll, datAll_dsA xs vs ys h]; rfl
theorem datAll_cons (h : datAll vs = some ys) : datAll (.d x :: vs) = some (x :: ys) := by rw [datAll, h]
end
end Lq
namespace Lq
open PySem PySem.Spec PyProof.Rows L2
/-! ### list(range(..)) -/
def smallR (n : Nat) : Bool := decide (n ≤ 1000000)
def lrgF1 (fa : Rho → R VD) : Rho → R (List D) := fun ρ => (fa ρ).bind fun v ρ1 => match v with
  | .d (.int n) => if okR n && smallR n.toNat then .ok (rng 0 n.toNat) ρ1 else .bad
  | _ => .bad
def lrgF2 (fa fb : Rho → R VD) : Rho → R (List D) := fun ρ => (fa ρ).bind fun v ρ1 => match v with
  | .d (.int m) => (fb ρ1).bind fun w ρ2 => (match w with
    | .d (.int n) => if okR m && (okR n && smallR (n - m).toNat) then .ok (rng m (n - m).toNat) ρ2 else .bad
    | _ => .bad)
  | _ => .bad
theorem okR_lt {n : Int} (h : okR n = true) : -(2 ^ 62) ≤ n ∧ n < 2 ^ 62 := by
  unfold okR at h
  have := Nat.le_of_ble_eq_true h
  omega
theorem rps_rng {K : PySem.W.Frag} {T : Tb} {S : Hp} (m n : Int) : Rps K T S (rng m (n - m).toNat) (rgV m n) := by
  have e1 : rng m (n - m).toNat = ((List.range (n - m).toNat).map fun i => m + (i : Nat)).map D.int := by unfold rng; rw [List.map_map]; rfl
  have e2 : rgV m n = ((List.range (n - m).toNat).map fun i => m + (i : Nat)).map V.int := by unfold rgV; rw [List.map_map]; rfl
  rw [e1, e2]
  exact Rps.ints _
section
variable {X : Cx} {T : Tb} {W : WX} {a b : Expr} {fa fb : Rho → R VD} {p p2 pos pos2 : Pos}
theorem xf_listRg1 (hc : X.calm = true) (hm : X.mg "list" = none) (hm2 : X.mg "range" = none) (ha : XE X T W a fa) (hg : L2.Gl X "list" := by rfl) (hg2 : L2.Gl X "range" := by rfl) (na : starEach [a] X.env = (false, eval a X.env) :: starEach [] X.env := by rfl)
    (nb : starEach [Expr.Call (.Name "range" p2) [a] [] pos2] X.env = (false, eval (Expr.Call (.Name "range" p2) [a] [] pos2) X.env) :: starEach [] X.env := by rfl) : XF X T W (.Call (.Name "list" p) [.Call (.Name "range" p2) [a] [] pos2] [] pos) (lrgF1 fa) :=
  (pe_listRg hc hg hm (prg_1 hg2 hm2 ha na) nb).impQ fun σ H Q h => by
    obtain ⟨β, G, S, ρ, o, q⟩ := h
    refine ⟨β, G, S, ρ, o, PostF.thn (Rl := RpV X.K T σ) q fun S1 H1 ρ1 v u e1 o1 h1 p1 => ?_⟩
    split at p1
    · rename_i n
      split at p1
      · rename_i hk
        rw [Bool.and_eq_true] at hk
        have b1 := okR_lt hk.1
        have b2 : n.toNat ≤ 1000000 := of_decide_eq_true hk.2
        have g := p1.gf o1
        have r := rps_rng (K := X.K) (T := T) (S := S1) 0 n
        rw [Int.sub_zero] at r
        exact ⟨n, h1, ⟨by omega, by omega, b1.1, b1.2, by omega⟩, fun z hz => g.new o1.sh r z hz⟩
      · exact p1.elim
    · exact p1.elim
theorem xf_listRg2 (hc : X.calm = true) (hm : X.mg "list" = none) (hm2 : X.mg "range" = none) (ha : XE X T W a fa) (hb : XE X T W b fb) (hg : L2.Gl X "list" := by rfl) (hg2 : L2.Gl X "range" := by rfl) (na : starEach [a, b] X.env = (false, eval a X.env) :: starEach [b] X.env := by rfl)
    (nb : starEach [b] X.env = (false, eval b X.env) :: starEach [] X.env := by rfl) (hpl : (backTo pos2 (starEach [b] X.env)).any (·.1) = false := by rfl)
    (nc : starEach [Expr.Call (.Name "range" p2) [a, b] [] pos2] X.env = (false, eval (Expr.Call (.Name "range" p2) [a, b] [] pos2) X.env) :: starEach [] X.env := by rfl) : XF X T W (.Call (.Name "list" p) [.Call (.Name "range" p2) [a, b] [] pos2] [] pos) (lrgF2 fa fb) :=
  (pe_listRg hc hg hm (prg_2 hg2 hm2 ha hb na nb hpl) nc).impQ fun σ H Q h => by
    obtain ⟨β, G, S, ρ, o, q⟩ := h
    refine ⟨β, G, S, ρ, o, PostF.thn (Rl := RpV X.K T σ) q fun S1 H1 ρ1 v u e1 o1 h1 p1 => ?_⟩
    split at p1
    · rename_i m
      refine ⟨β, G, S1, ρ1, o1, PostF.thn (Rl := RpV X.K T σ) p1 fun S2 H2 ρ2 w z e2 o2 h2 p2 => ?_⟩
      split at p2
      · rename_i n
        split at p2
        · rename_i hk
          rw [Bool.and_eq_true, Bool.and_eq_true] at hk
          have b0 := okR_lt hk.1
          have b1 := okR_lt hk.2.1
          have b2 : (n - m).toNat ≤ 1000000 := of_decide_eq_true hk.2.2
          have g := p2.gf o2
          exact ⟨m, n, h1, h2, ⟨b0.1, b0.2, b1.1, b1.2, by omega⟩, fun z hz => g.new o2.sh (rps_rng m n) z hz⟩
        · exact p2.elim
      · exact p2.elim
    · exact p1.elim
end
section
variable {ρ ρ1 ρ2 : Rho} {fa fb : Rho → R VD}
theorem ev_lrg1 {n : Nat} (h : fa ρ = .ok (.d (.int n)) ρ1) (hn : n ≤ 1000000) : lrgF1 fa ρ = .ok (rng 0 n) ρ1 := by
  have : okR (n : Int) = true := okR_small (by omega) (by omega)
  simp [lrgF1, h, R.bind, this, smallR, hn]
theorem ev_lrg2 {m n : Int} (h : fa ρ = .ok (.d (.int m)) ρ1) (h2 : fb ρ1 = .ok (.d (.int n)) ρ2) (hm : okR m = true) (hn : okR n = true) (hs : (n - m).toNat ≤ 1000000) : lrgF2 fa fb ρ = .ok (rng m (n - m).toNat) ρ2 := by
  simp [lrgF2, h, h2, R.bind, hm, hn, smallR, hs]
end
open PySem.W in
/-- an own class by its own facts, with or without a dict -/
theorem kit_ref3 {K : PySem.W.Frag} {t : Value} {C : Addr} {b : Bool} (hd : isClsIn K C = true) (ht : typeIn K (.ref C) = some (.type "type")) (hs : subIn K (.ref C) (.ref C) = some true) (h : subIn K t (.ref C) = some b) : kitOne K t (.ref C) = some b := by
  unfold kitOne
  by_cases e : (t == .ref C) = true
  · rw [if_pos e]
    have e' : t = .ref C := eq_of_beq e
    rw [e', hs] at h
    exact h
  · rw [if_neg e]
    have e2 : ((clsIn K C).isSome && typeIn K (.ref C) == some (.type "type")) = true := by
      rw [show (clsIn K C).isSome = true from hd, ht]; rfl
    show (if ((clsIn K C).isSome && typeIn K (.ref C) == some (.type "type")) = true then subIn K t (.ref C) else none) = some b
    rw [if_pos e2]
    exact h
open PySem.W in
/-- a built-in class -/
theorem kit_ty {K : PySem.W.Frag} {C : Addr} {x : String} {b : Bool} (hx : kitMeta x = true) (h : subIn K (.ref C) (.type x) = some b) : kitOne K (.ref C) (.type x) = some b := by
  unfold kitOne
  rw [if_neg (by intro e; cases eq_of_beq e)]
  show (if kitMeta x = true then subIn K (.ref C) (.type x) else none) = some b
  rw [if_pos hx]
  exact h
end Lq
namespace Lq
open PySem PySem.Spec PyProof.Rows L2
/-! ### // by any positive divisor below 2 ^ 9000 -/
def fdivWD : D → D → Option D
  | .int i, .int j => if decide (0 < j) && Nat.blt j.natAbs.log2 9000 then some (.int (i / j)) else none
  | _, _ => none
theorem p_fdivW {K : PySem.W.Frag} {T : Tb} : Prim2 K T (L2.rI CDivW fun i j => .int (i / j)) fdivWD := fun S H x y dx dy d Q e hx hy h g => by
  unfold fdivWD at h
  split at h
  · split at h
    · rename_i hb
      cases h
      rw [Bool.and_eq_true] at hb
      exact ⟨_, _, hx.int, hy.int, ⟨of_decide_eq_true hb.1, Nat.le_of_ble_eq_true hb.2⟩, g.now e rfl⟩
    · cases h
  · cases h
theorem dv_fdivW {i j : Int} (h0 : 0 < j) (h1 : j.natAbs < 2 ^ 9000) : fdivWD (.int i) (.int j) = some (.int (i / j)) := by
  have hl : j.natAbs.log2 < 9000 := PySem.Flt.log2_lt_of (by decide) h1
  have hb : Nat.blt j.natAbs.log2 9000 = true := Nat.ble_eq_true_of_le hl
  show (if (decide (0 < j) && Nat.blt j.natAbs.log2 9000) = true then some (D.int (i / j)) else none) = _
  rw [decide_eq_true h0, hb]
  rfl
/-! ### * of great ints -/
def mulWD : D → D → Option D
  | .int i, .int j => if big i || (big j || Nat.blt (i.natAbs.log2 + j.natAbs.log2) 1000000) then some (.int (i * j)) else none
  | x, y => mulD x y
theorem op_mulAW {X : Cx} : OpR X (binaryOp .Mult) (fun x y H Q => rMul3 X.K x y H Q ∨ L2.rI CMulW (fun i j => .int (i * j)) x y H Q) := op_mulA.or op_mulW
theorem p_mulW {K : PySem.W.Frag} {T : Tb} : Prim2 K T (fun x y H Q => rMul3 K x y H Q ∨ L2.rI CMulW (fun i j => .int (i * j)) x y H Q) mulWD := fun S H x y dx dy d Q e hx hy h g => by
  unfold mulWD at h
  split at h
  · rename_i i j
    split at h
    · rename_i hb
      by_cases hs : (big i || big j) = true
      · refine .inl (p_mul S H x y _ _ d Q e hx hy ?_ g)
        show (if (big i || big j) = true then some (D.int (i * j)) else none) = _
        rw [if_pos hs]; exact h
      · have hw : Nat.blt (i.natAbs.log2 + j.natAbs.log2) 1000000 = true := by
          rw [Bool.or_eq_true, Bool.or_eq_true] at hb
          rw [Bool.or_eq_true] at hs
          rcases hb with hb | hb | hb
          · exact (hs (.inl hb)).elim
          · exact (hs (.inr hb)).elim
          · exact hb
        cases h
        exact .inr ⟨_, _, hx.int, hy.int, Nat.le_of_ble_eq_true hw, g.now e rfl⟩
    · cases h
  · exact .inl (p_mul S H x y _ _ d Q e hx hy h g)
theorem dv_mulW {i j : Int} (h1 : i.natAbs < 2 ^ 4000) (h2 : j.natAbs < 2 ^ 4000) : mulWD (.int i) (.int j) = some (.int (i * j)) := by
  have a1 : i.natAbs.log2 < 4000 := PySem.Flt.log2_lt_of (by decide) h1
  have a2 : j.natAbs.log2 < 4000 := PySem.Flt.log2_lt_of (by decide) h2
  have hb : Nat.blt (i.natAbs.log2 + j.natAbs.log2) 1000000 = true := Nat.ble_eq_true_of_le (by omega)
  show (if (big i || (big j || Nat.blt (i.natAbs.log2 + j.natAbs.log2) 1000000)) = true then some (D.int (i * j)) else none) = _
  rw [hb, Bool.or_true, Bool.or_true]
  rfl
end Lq
namespace Lq
open PySem PySem.Spec PyProof.Rows L2
/-! ### own errors as values: C(e), C(f = e), C() -/
section
variable {prog : Program} {w : World} {A : Around} {E : Value → Shared → Prop} {R : Result → Shared → Prop} {h : Heap} {g : Array GenState} {d : Drawn} {t : Nat} {os : OsState}
variable {nm q : Str} {C N : Addr} {bs bm bmB : List Value} {hdct : Bool} {sn : List Str} {sub : List Value} {ab : Bool} {col : Option Bool} {dd : Option Addr} {k0 k1 k2 k3 k5 : Option Value} {B newId initId : String} {kw : List (Str × Value)}
open HandSPX in
theorem kwn_check {M : Model} (F : ExcBaseFacts B newId initId bmB) (hT : ∀ X : String, bm.contains (.type X) = bmB.contains (.type X)) {Q : Unit → Shared → Prop}
    (hC : h.get? C = some (excClassObj nm q C N bs bm hdct sn sub ab col dd k0 k1 k2 k3 k5 newId)) (hq : Q () ⟨h, g, d, t, os⟩) : wpAny M A (checkBuiltinCall newId ⟨[.ref C], kw⟩) Q E ⟨h, g, d, t, os⟩ := by
  have hin : (Value.ref C :: bm).contains (.type B) = true := by rw [List.contains_cons, hT, F.hasB, Bool.or_true]
  have hns := F.noStar
  simp only [F.newSplit, F.newKind, F.newRow, checkBuiltinCall]
  repeat (first | refine wpAny_loadPart_at hC ?_ | (refine wpAny_isSubtype_exc hC ?_; rw [hin]) | refine wpAny_madeBy_exc hC ?_ | refine wpAny_staticBase_exc hC ?_ | simp only [Bool.false_eq_true, bne_self_eq_false, if_false] | wp_step)
  exact hq
open HandSPX in
theorem kwn_new (F : ExcBaseFacts B newId initId bmB) (hT : ∀ X : String, bm.contains (.type X) = bmB.contains (.type X))
    (hC : h.get? C = some (excClassObj nm q C N bs bm hdct sn sub ab col dd k0 k1 k2 k3 k5 newId))
    (hq : R (.ok (.ret (.ref (h.objs.size + 1)))) ⟨(h.push (W.kdv_tup [])).push (excO C h.objs.size), g, d, t, os⟩) :
    codeAny (model prog w) A (.builtin newId ⟨[.ref C], kw⟩) R ⟨h, g, d, t, os⟩ := by
  have hen := F.ends
  have c1 : (Value.ref C :: bm).contains (.type B) = true := by rw [List.contains_cons, hT, F.hasB, Bool.or_true]
  have c2 : (Value.ref C :: bm).contains (.type "AttributeError") = false := by rw [List.contains_cons, hT, F.noAttr]; rfl
  have c3 : (Value.ref C :: bm).contains (.type "NameError") = false := by rw [List.contains_cons, hT, F.noName]; rfl
  refine codeAny_builtinAt F.entry (by
    unfold Builtin.«BaseException.__new__»
    refine PySem.wpAt_bind ?_
    show PySem.wpAt _ _ _ (stack >>= _) _ _ _
    refine PySem.wpAt_bind (PySem.wpAt_stack fun p below => PySem.wpAt_of_wpAny ?_)
    wp_walk
    refine PySem.wpAt_of_wpAny ?_
    rw [F.owner]
    repeat (first | with_reducible refine wpAny_loadPart_at hC ?_ | with_reducible refine wpAny_madeHere_exc F.canon hC ?_ | (with_reducible refine wpAny_isSubtype_exc hC ?_; first | rw [c1] | rw [c2] | rw [c3]) | wp_step)
    show R _ _
    rw [Heap.size_push]
    exact hq)
open HandSPX in
theorem kwn_type (F : ExcBaseFacts B newId initId bmB) (hT : ∀ X : String, bm.contains (.type X) = bmB.contains (.type X)) {fI : Addr} {Q : Fin → Shared → Prop}
    (hC : h.get? C = some (excClassObj nm q C N bs bm hdct sn sub ab col dd k0 k1 k2 k3 k5 newId))
    (hi : W.Looks (model prog w) h (typeLookup (.ref C) "__init__") (some (.ref fI))) (hb : ∀ self, W.Looks (model prog w) h (bindSpecial (.ref fI) self) (.ref fI, [self]))
    (hq : codeAny (model prog w) A (.call (.ref fI) ⟨[.ref (h.objs.size + 1)], kw⟩)
      (fun r s' => match r with | .ok (.ret v) => v = .none ∧ Q (.done (.ret (.ref (h.objs.size + 1)))) s' | .ok _ => False | .error e => E e s')
      ⟨(h.push (W.kdv_tup [])).push (excO C h.objs.size), g, d, t, os⟩) :
    wpAny (model prog w) A (Builtin.«type.__call__» ⟨[.ref C], kw⟩) Q E ⟨h, g, d, t, os⟩ := by
  repeat (first | with_reducible refine wpAny_madeBy_exc hC ?_ | with_reducible refine wpAny_loadPart_at hC ?_ | wp_step)
  refine codeAny_call_builtin_code (Code.quiet_builtin _ F.quiet) (kwn_check F hT hC (kwn_new F hT hC ?_))
  show wpAny _ _ _ _ _ _
  have kk : ∀ b o, h.get? b = some o → ((h.push (W.kdv_tup [])).push (excO C h.objs.size)).get? b = some o := fun b o e => Heap.get?_push_of_some _ (Heap.get?_push_of_some _ e)
  have hC1 := kk _ _ hC
  have hg : ((h.push (W.kdv_tup [])).push (excO C h.objs.size)).get? (h.objs.size + 1) = some (excO C h.objs.size) := by heap_get
  have hcC : (Value.ref C :: bm).contains (.ref C) = true := by simp
  have a1 := hi.keeps kk
  have a2 := (hb (.ref (h.objs.size + 1))).keeps kk
  unfold isInstance
  repeat (first | with_reducible refine wpAny_loadPart_at hg ?_ | (with_reducible refine wpAny_isSubtype_exc hC1 ?_; rw [hcC]) | wp_step)
  show wpAny _ _ (typeLookup (.ref C) _) _ _ _
  refine a1.at (wpAny_holding (wpAny_bind (a2.at (wpAny_bind (wpAny_call (codeAny_mono hq fun r s' z => ?_))))))
  rcases r with e | (v | _ | _ | _) <;> first | exact z | exact z.elim | skip
  obtain ⟨rfl, z⟩ := z
  first
    | exact wpAny_pure (wpAny_pure z)
    | (wp_walk; exact z)
open HandSPX in
theorem kwn_call (F : ExcBaseFacts B newId initId bmB) (hT : ∀ X : String, bm.contains (.type X) = bmB.contains (.type X)) {fI : Addr}
    (hC : h.get? C = some (excClassObj nm q C N bs bm hdct sn sub ab col dd k0 k1 k2 k3 k5 newId))
    (hi : W.Looks (model prog w) h (typeLookup (.ref C) "__init__") (some (.ref fI))) (hb : ∀ self, W.Looks (model prog w) h (bindSpecial (.ref fI) self) (.ref fI, [self]))
    (hq : codeAny (model prog w) (A.under (.builtin "type.__call__" ⟨[.ref C], kw⟩)) (.call (.ref fI) ⟨[.ref (h.objs.size + 1)], kw⟩) (W.InitBack (h.objs.size + 1) R)
      ⟨(h.push (W.kdv_tup [])).push (excO C h.objs.size), g, d, t, os⟩) :
    codeAny (model prog w) A (.call (.ref C) ⟨[], kw⟩) R ⟨h, g, d, t, os⟩ := by
  have f1 := tc_lookup
  have f2 := tc_bind (.ref C)
  have hTy : (⟨h, g, d, t, os⟩ : Shared).TypeIs (.ref C) "type" := ⟨_, hC, rfl⟩
  refine codeAny_of_tree (show wpAny _ _ (callAny (.ref C) _) _ _ _ from ?_)
  repeat (any_goals (first | assumption | with_reducible refine wpAny_loadPart_at hC ?_ | wp_step))
  refine ⟨rfl, codeAny_call_builtin_at (Code.quiet_builtin _ (by decide +kernel)) entry_typeCall (wpAny_check_type_call_sub hC (kwn_type F hT hC hi hb (codeAny_mono hq fun r s' z => ?_)))⟩
  rcases r with e | (v | _ | _ | _) <;> exact z
end
/-! ### the error made is an object like others -/
section
variable {X : Cx} {p pos : Pos} {e : Expr} {es : List Expr}
theorem mkv_end {pins : List (Addr × Obj)} {σ : L2.St} {H1 H2 : Hp} {Q : VK} {hp hp2 h2 : Heap} {g1 g2 : Array GenState} {d1 d2 : Drawn} {t1 t2 : Nat} {os1 os2 : OsState} {a C d : Addr} {fs : List (Str × V)} (I1 : Inv X pins σ H1 ⟨hp, g1, d1, t1, os1⟩)
    (ha : hp.objs.size ≤ a) (k : ∀ b o, hp.get? b = some o → hp2.get? b = some o) (un : Un (frs X.stack) [] (upd H1 a (exo a C none)) H2 hp2 h2) (hok : HOk X.prog X.w H2 h2) (ho : os2 = os1) (hb : AllBare g2)
    (ea : H2 a = some (exo a C (some d))) (ed : H2 d = some (exd d fs)) (hd1 : H1 d = none) (q : Q (.ref a) (upd (upd (L2.del H2 a) d (.xd fs)) a (ExK C d a))) : EP X pins σ Q (.ref a) ⟨h2, g2, d2, t2, os2⟩ := by
  obtain ⟨t0, G, J, kG, ge, hoe, na⟩ := mk_end0 (d2 := d2) (t2 := t2) I1 ha k un hok ho hb ea ed hd1
  have J2 : Inv X pins σ (upd (L2.del H2 a) d (.xd fs)) ⟨h2, g2, d2, t2, os2⟩ := J.call' (ch := []) rfl (Un.kept kG) (J.hok.kept kG) hb (fun b z => absurd z (by simp))
  have n0 : X.s_0.heap.get? a = none := by
    cases e0 : X.s_0.heap.get? a with
    | none => rfl
    | some o => exact absurd (Nat.lt_of_lt_of_le (Heap.lt_size e0) (Nat.le_trans I1.sz ha)) (Nat.lt_irrefl _)
  refine ⟨.ref a, _, inv_know J2 n0 na (fun y => ?_) (fun x c ec y => ?_) (fun p hp y => ?_) (exK_ok hoe ⟨rfl, rfl⟩ rfl), rfl, q⟩
  · obtain ⟨m, ⟨o, es, ep, e1, _⟩, _⟩ := J.loc
    rw [← y] at e1
    cases ge.symm.trans e1
  · obtain ⟨v, o, e1, _⟩ := J.cell x c ec
    rw [y] at e1
    cases ge.symm.trans e1
  · have e1 := (J.pin p hp).1
    rw [y] at e1
    cases ge.symm.trans e1
def tMkV (C : Addr) (sp : Sp) (ta : TA) : TE := fun σ H Q => ta σ H fun vs H1 => vs.length ≤ 1000 ∧ ∀ a, H1 a = none → sp (.ref a :: vs) (upd H1 a (exo a C none))
  (fun v H2 => v = .non ∧ ∃ (d : Addr) (fs : List (Str × V)), H2 a = some (exo a C (some d)) ∧ H2 d = some (exd d fs) ∧ H1 d = none ∧ Q (.ref a) (upd (upd (L2.del H2 a) d (.xd fs)) a (ExK C d a))) (fun _ _ _ => False)
/-- how f = v binds behind self -/
def KwS (K : PySem.W.Frag) (fd : FuncData) (f : Str) : Prop := ∀ (s : Shared) (a v : Value), K.In s.heap → BindsTo s fd ⟨[a], [(f, v)]⟩ [("self", a), (f, v)]
theorem mkv_run {C fI : Addr} {k : Nat} {fd : FuncData} {ps : List Str} {sp : Sp} (T : OexC X.K C) (iC : PySem.W.findIn X.K (.ref C) "__init__" = some (some (.ref fI))) (tI : PySem.W.typeIn X.K (.ref fI) = some (.type "function"))
    (F1 : FnOk X.prog X.w X.K X.mg X.base (L2.CX X.prog X.w) k fI fd ps sp) (hr : Room (k + 1) X.A) (hb : Binds X.K fd ps []) {pins : List (Addr × Obj)} {σ : L2.St} {H1 : Hp} {s1 : Shared} {us : List Value} {vs : List V} {Q : VK} (I1 : Inv X pins σ H1 s1) (r1 : Vals vs us) (hz : vs.length ≤ 1000)
    (q1 : ∀ a, H1 a = none → sp (.ref a :: vs) (upd H1 a (exo a C none)) (fun v H2 => v = .non ∧ ∃ (d : Addr) (fs : List (Str × V)), H2 a = some (exo a C (some d)) ∧ H2 d = some (exd d fs) ∧ H1 d = none ∧ Q (.ref a) (upd (upd (L2.del H2 a) d (.xd fs)) a (ExK C d a))) (fun _ _ _ => False)) :
    wpAny (model X.prog X.w) X.A (call (.ref C) us) (EP X pins σ Q) X.xe s1 := by
  obtain ⟨nm, q, N, bs, bm, sn, sub, ab, col, dd, k0, k1, k2, k3, k5, hC, hbm⟩ := T.cls
  obtain ⟨hp, g, dr, tk, os⟩ := s1
  have hsz : hp.objs.size ≤ hp.objs.size + 1 := Nat.le_succ _
  have hq := q1 (hp.objs.size + 1) (I1.hok.fresh hsz)
  have kk : ∀ b o, hp.get? b = some o → ((hp.push (PySem.W.kdv_tup us)).push (PySem.HandSPX.excO C hp.objs.size)).get? b = some o := fun b o e => Heap.get?_push_of_some _ (Heap.get?_push_of_some _ e)
  have hg2 : ((hp.push (PySem.W.kdv_tup us)).push (PySem.HandSPX.excO C hp.objs.size)).get? (hp.objs.size + 1) = some (PySem.HandSPX.excO C hp.objs.size) := by heap_get
  have I2 : Inv X pins σ (upd H1 (hp.objs.size + 1) (exo (hp.objs.size + 1) C none)) ⟨(hp.push (PySem.W.kdv_tup us)).push (PySem.HandSPX.excO C hp.objs.size), g, dr, tk, os⟩ := I1.laid (t' := tk) kk hsz (exo_ok hg2)
  have r2 : Vals (V.ref (hp.objs.size + 1) :: vs) (Value.ref (hp.objs.size + 1) :: us) := .cons rfl r1
  have hbb := hb _ (Value.ref (hp.objs.size + 1) :: us) I2.kIn (by rw [List.append_nil, ← r2.length]; exact F1.len _ _ _ _ hq)
  rw [List.append_nil] at hbb
  refine wpAny_call (PySem.HandSPX.call_own F.excBase_ValueError (fun Y => PySem.HandSPX.refsVE_contains Y bm hbm) (I1.kIn _ _ hC) (PySem.W.looks_findIn I1.kIn iC) (fun self => PySem.W.bind_fn I1.kIn self tI) (by rw [← Paired.length r1, sizeLine_eq]; omega)
    (codeAny_mono (F1.run _ X.stack _ _ ⟨Value.ref (hp.objs.size + 1) :: us, []⟩ _ _ _ (fun _ _ _ => False) (hr.make C us []) (I2.env0.make C us []) hbb r2 hq) fun r s' hq' => ?_))
  cases r with
  | error er => exact (cx_no hq').elim
  | ok fl =>
    cases fl with
    | ret u =>
      obtain ⟨v, H2, os2, bare2, un2, hok2, rv, ev, d, fs, ea, ed, hd1, q2⟩ := hq'
      subst ev
      exact ⟨rv, mkv_end I1 hsz kk un2 hok2 os2 bare2 ea ed hd1 q2⟩
    | _ => exact False.elim hq'
theorem mkv_kw {C fI : Addr} {k : Nat} {fd : FuncData} {f : Str} {sp : Sp} (T : OexC X.K C) (iC : PySem.W.findIn X.K (.ref C) "__init__" = some (some (.ref fI))) (tI : PySem.W.typeIn X.K (.ref fI) = some (.type "function"))
    (F1 : FnOk X.prog X.w X.K X.mg X.base (L2.CX X.prog X.w) k fI fd ["self", f] sp) (hr : Room (k + 1) X.A) (hb : KwS X.K fd f) {pins : List (Addr × Obj)} {σ : L2.St} {H1 : Hp} {s1 : Shared} {u : Value} {v : V} {Q : VK} (I1 : Inv X pins σ H1 s1) (r1 : RelV v u)
    (q1 : ∀ a, H1 a = none → sp [.ref a, v] (upd H1 a (exo a C none)) (fun v H2 => v = .non ∧ ∃ (d : Addr) (fs : List (Str × V)), H2 a = some (exo a C (some d)) ∧ H2 d = some (exd d fs) ∧ H1 d = none ∧ Q (.ref a) (upd (upd (L2.del H2 a) d (.xd fs)) a (ExK C d a))) (fun _ _ _ => False)) :
    wpAny (model X.prog X.w) X.A (call (.ref C) [] [(f, u)]) (EP X pins σ Q) X.xe s1 := by
  obtain ⟨nm, q, N, bs, bm, sn, sub, ab, col, dd, k0, k1, k2, k3, k5, hC, hbm⟩ := T.cls
  obtain ⟨hp, g, dr, tk, os⟩ := s1
  have hsz : hp.objs.size ≤ hp.objs.size + 1 := Nat.le_succ _
  have hq := q1 (hp.objs.size + 1) (I1.hok.fresh hsz)
  have kk : ∀ b o, hp.get? b = some o → ((hp.push (PySem.W.kdv_tup [])).push (PySem.HandSPX.excO C hp.objs.size)).get? b = some o := fun b o e => Heap.get?_push_of_some _ (Heap.get?_push_of_some _ e)
  have hg2 : ((hp.push (PySem.W.kdv_tup [])).push (PySem.HandSPX.excO C hp.objs.size)).get? (hp.objs.size + 1) = some (PySem.HandSPX.excO C hp.objs.size) := by heap_get
  have I2 : Inv X pins σ (upd H1 (hp.objs.size + 1) (exo (hp.objs.size + 1) C none)) ⟨(hp.push (PySem.W.kdv_tup [])).push (PySem.HandSPX.excO C hp.objs.size), g, dr, tk, os⟩ := I1.laid (t' := tk) kk hsz (exo_ok hg2)
  have r2 : Vals [V.ref (hp.objs.size + 1), v] [Value.ref (hp.objs.size + 1), u] := .cons rfl (.cons r1 .nil)
  refine wpAny_call (kwn_call F.excBase_ValueError (fun Y => PySem.HandSPX.refsVE_contains Y bm hbm) (I1.kIn _ _ hC) (PySem.W.looks_findIn I1.kIn iC) (fun self => PySem.W.bind_fn I1.kIn self tI)
    (codeAny_mono (F1.run _ X.stack _ _ ⟨[Value.ref (hp.objs.size + 1)], [(f, u)]⟩ _ _ _ (fun _ _ _ => False) (hr.make C [] [(f, u)]) (I2.env0.make C [] [(f, u)]) (hb _ _ _ I2.kIn) r2 hq) fun r s' hq' => ?_))
  cases r with
  | error er => exact (cx_no hq').elim
  | ok fl =>
    cases fl with
    | ret u =>
      obtain ⟨v, H2, os2, bare2, un2, hok2, rv, ev, d, fs, ea, ed, hd1, q2⟩ := hq'
      subst ev
      exact ⟨rv, mkv_end I1 hsz kk un2 hok2 os2 bare2 ea ed hd1 q2⟩
    | _ => exact False.elim hq'
theorem pe_mkv {x : Str} {C fI : Addr} {k : Nat} {fd : FuncData} {ps : List Str} {sp : Sp} {ta : TA} (T : OexC X.K C) (iC : PySem.W.findIn X.K (.ref C) "__init__" = some (some (.ref fI))) (tI : PySem.W.typeIn X.K (.ref fI) = some (.type "function"))
    (F1 : FnOk X.prog X.w X.K X.mg X.base (L2.CX X.prog X.w) k fI fd ps sp) (hr : Room (k + 1) X.A) (hb : Binds X.K fd ps []) (hm : X.mg x = some (.ref C)) (ha : PA X (e :: es) ta) (hg : L2.Gl X x := by rfl)
    (hdb : (x == ("__debug__" : Str)) = false := by decide) (he : starEach (e :: es) X.env = (false, eval e X.env) :: starEach es X.env := by rfl) (hpl : (backTo pos (starEach es X.env)).any (·.1) = false := by rfl) :
    PE X (.Call (.Name x p) (e :: es) [] pos) (tMkV C sp ta) :=
  ⟨fun pins s σ H Q I h => wpAny_Call_Name_kw (ld_glob I hg hm (PySem.W.callWith_K (h₀ := X.base) I.ok.mod.kin T.kC (thn (ha.run pos pins s σ H _ I h) fun us s1 ⟨vs, H1, I1, r1, hz, q1⟩ => ⟨I1.kIn, mkv_run T iC tI F1 hr hb I1 r1 hz q1⟩) he hpl) hdb)⟩
theorem pe_mkv0 {x : Str} {C fI : Addr} {k : Nat} {fd : FuncData} {ps : List Str} {sp : Sp} (T : OexC X.K C) (iC : PySem.W.findIn X.K (.ref C) "__init__" = some (some (.ref fI))) (tI : PySem.W.typeIn X.K (.ref fI) = some (.type "function"))
    (F1 : FnOk X.prog X.w X.K X.mg X.base (L2.CX X.prog X.w) k fI fd ps sp) (hr : Room (k + 1) X.A) (hb : Binds X.K fd ps []) (hm : X.mg x = some (.ref C)) (hg : L2.Gl X x := by rfl) (hdb : (x == ("__debug__" : Str)) = false := by decide) :
    PE X (.Call (.Name x p) [] [] pos) (tMkV C sp (fun σ H Q => Q [] H)) :=
  ⟨fun pins s σ H Q I h => wpAny_Call_Name_kw (ld_glob I hg hm (PySem.W.callWith_K0 I.kIn T.kC (mkv_run T iC tI F1 hr hb I .nil h.1 h.2)) hdb)⟩
theorem pe_mkvK {x f : Str} {C fI : Addr} {k : Nat} {fd : FuncData} {sp : Sp} {kws : List Keyword} {tk : TA} (T : OexC X.K C) (iC : PySem.W.findIn X.K (.ref C) "__init__" = some (some (.ref fI))) (tI : PySem.W.typeIn X.K (.ref fI) = some (.type "function"))
    (F1 : FnOk X.prog X.w X.K X.mg X.base (L2.CX X.prog X.w) k fI fd ["self", f] sp) (hr : Room (k + 1) X.A) (hb : KwS X.K fd f) (hm : X.mg x = some (.ref C)) (hkw : PK X kws tk) (hg : L2.Gl X x := by rfl)
    (hall : (backToKw pos (keywordEach kws X.env)).all (·.1.isSome) = true := by rfl) (hks : (backToKw pos (keywordEach kws X.env)).filterMap (·.1) = [f] := by rfl)
    (hdb : (x == ("__debug__" : Str)) = false := by decide) (hpl : ((backTo pos (starEach [] X.env)).any (·.1) || (backToKw pos (keywordEach kws X.env)).any (·.1.isNone)) = false := by rfl) :
    PE X (.Call (.Name x p) [] kws pos) (tMkV C sp tk) := by
  refine ⟨fun pins s σ H Q I h => wpAny_Call_Name_kw (ld_glob I hg hm ?_ hdb)⟩
  refine PySem.W.callWith_KW0 (h₀ := X.base) I.ok.mod.kin T.kC hall (thn (hkw.run pos pins s σ H _ I h) fun ws s2 ⟨zs, H2, I2, rz, hz, q2⟩ => ⟨I2.kIn, ?_⟩) hpl
  rw [hks]
  have hl : (V.ref 0 :: zs).length = 2 := by
    have z := F1.len _ _ _ _ (q2 _ (I2.hok.fresh (Nat.le_refl s2.heap.objs.size)))
    simpa using z
  cases rz with
  | nil => simp at hl
  | cons a b =>
    cases b with
    | nil => exact mkv_kw T iC tI F1 hr hb I2 a q2
    | cons _ _ => simp at hl
end
/-! ### over plain data -/
def mkE (t : Nat) (fs : Rho → R (List VD)) : Rho → R VD := fun ρ => (fs ρ).bind fun vs ρ1 => match datAll vs with
  | some [d] => .ok (.d (.obj t [d])) ρ1
  | _ => .bad
def mkE0 (t : Nat) : Rho → R VD := fun ρ => .ok (.d (.obj t [.tup []])) ρ
section
variable {X : Cx} {T : Tb} {W : WX} {p pos : Pos} {e : Expr} {es : List Expr} {fs : Rho → R (List VD)}
theorem mkv_of {t : Nat} {f : Str} {ta : TA} {σ : L2.St} {H : Hp} {Q : VK} (ie : isEx t = true) (hf : flds t = [f]) (h : rE X.K T W (mkE t fs) σ H Q) (hta : rA X.K T W fs = ta) : tMkV (T t) (spIn X.K (T t) f) ta σ H Q := by
  subst hta
  obtain ⟨β, G, S, ρ, o, p⟩ := h
  refine ⟨β, G, S, ρ, o, Post.thn (Rl := RpVs X.K T σ) p fun S1 H1 ρ1 vs us e1 o1 h1 p1 => ?_⟩
  split at p1
  case h_2 => exact p1.elim
  case h_1 d q =>
  have r := datAll_rps q h1
  obtain ⟨u, ur, rfl, hu, hur⟩ := r
  obtain rfl : ur = [] := hur
  refine ⟨by show 1 ≤ 1000; decide, fun a ha => ⟨a, u, rfl, upd_same, fun dx hdx hne => ⟨rfl, dx, [(f, u)], upd_same, by rw [upd_ne hne, upd_same], by rw [upd_ne hne] at hdx; exact hdx, ?_⟩⟩⟩
  have hdx' : H1 dx = none := by rw [upd_ne hne] at hdx; exact hdx
  have hH : upd (L2.del (upd (upd (upd H1 a (exo a (T t) none)) dx (exd dx [(f, u)])) a (exo a (T t) (some dx))) a) dx (.xd [(f, u)]) = upd H1 dx (.xd [(f, u)]) := by
    funext b
    by_cases hb : b = dx
    · subst hb; rw [upd_same, upd_same]
    · rw [upd_ne hb, upd_ne hb]
      by_cases hba : b = a
      · subst hba; rw [del_same, ha]
      · rw [del_ne hba, upd_ne hba, upd_ne hb, upd_ne hba]
  rw [hH]
  have e2 := Ext.new (S := S1) (H := H1) (p := dx) (o := .xd [(f, u)]) o1.sh hdx'
  have e3 := Ext.new (S := upd S1 dx (.xd [(f, u)])) (H := upd H1 dx (.xd [(f, u)])) (p := a) (o := ExK (T t) dx a) (o1.ext e2).sh (by rw [upd_ne (Ne.symm hne)]; exact ha)
  have e4 := e2.trans e3
  exact p1 _ _ _ e4.s (o1.ext e4) ⟨a, [u], rfl, .inl ⟨ie, dx, upd_same, by rw [upd_ne hne, upd_same, hf]; rfl⟩, u, [], rfl, Rp.mono e4.s _ _ hu, rfl⟩
theorem xe_mkv {t : Nat} {x f : Str} {fI : Addr} {fd : FuncData} (ie : isEx t = true) (Ec : EC X.K X.mg x f (T t) fI) (F1 : FnOk X.prog X.w X.K X.mg X.base (L2.CX X.prog X.w) 1 fI fd ["self", f] (spIn X.K (T t) f)) (hr : Room 2 X.A) (hb : Binds X.K fd ["self", f] [])
    (hf : flds t = [f]) (ha : XA X T W (e :: es) fs) (hg : L2.Gl X x := by rfl) (hdb : (x == ("__debug__" : Str)) = false := by decide) (he : starEach (e :: es) X.env = (false, eval e X.env) :: starEach es X.env := by rfl) (hpl : (backTo pos (starEach es X.env)).any (·.1) = false := by rfl) :
    XE X T W (.Call (.Name x p) (e :: es) [] pos) (mkE t fs) := (pe_mkv Ec.ox Ec.iC Ec.tI F1 hr hb Ec.gC ha hg hdb he hpl).impQ fun σ H Q h => mkv_of ie hf h rfl
theorem xe_mkvK {t : Nat} {x f : Str} {fI : Addr} {fd : FuncData} {kws : List Keyword} (ie : isEx t = true) (Ec : EC X.K X.mg x f (T t) fI) (F1 : FnOk X.prog X.w X.K X.mg X.base (L2.CX X.prog X.w) 1 fI fd ["self", f] (spIn X.K (T t) f)) (hr : Room 2 X.A) (hb : KwS X.K fd f)
    (hf : flds t = [f]) (ha : XK X T W kws fs) (hg : L2.Gl X x := by rfl) (hall : (backToKw pos (keywordEach kws X.env)).all (·.1.isSome) = true := by rfl) (hks : (backToKw pos (keywordEach kws X.env)).filterMap (·.1) = [f] := by rfl)
    (hdb : (x == ("__debug__" : Str)) = false := by decide) (hpl : ((backTo pos (starEach [] X.env)).any (·.1) || (backToKw pos (keywordEach kws X.env)).any (·.1.isNone)) = false := by rfl) :
    XE X T W (.Call (.Name x p) [] kws pos) (mkE t fs) := (pe_mkvK Ec.ox Ec.iC Ec.tI F1 hr hb Ec.gC ha hg hall hks hdb hpl).impQ fun σ H Q h => mkv_of ie hf h rfl
theorem xe_mkv0 {t : Nat} {x f : Str} {fI : Addr} {fd : FuncData} (ie : isEx t = true) (Ec : EC X.K X.mg x f (T t) fI) (F1 : FnOk X.prog X.w X.K X.mg X.base (L2.CX X.prog X.w) 1 fI fd ["self"] (spIn0 X.K (T t) f)) (hr : Room 2 X.A) (hb : Binds X.K fd ["self"] [])
    (hf : flds t = [f]) (hg : L2.Gl X x := by rfl) (hdb : (x == ("__debug__" : Str)) = false := by decide) :
    XE X T W (.Call (.Name x p) [] [] pos) (mkE0 t) := (pe_mkv0 Ec.ox Ec.iC Ec.tI F1 hr hb Ec.gC hg hdb).impQ fun σ H Q h => by
  obtain ⟨β, G, S, ρ, o, p⟩ := h
  refine ⟨by decide, fun a ha => ⟨a, rfl, upd_same, fun tt dx ht hta hdx hne => ⟨rfl, dx, [(f, .ref tt)], upd_same, by rw [upd_ne hne, upd_same], ?_, ?_⟩⟩⟩
  · by_cases hd : dx = tt
    · subst hd; rw [upd_same] at hdx; cases hdx
    · rw [upd_ne hd, upd_ne hne] at hdx; exact hdx
  have hdt : dx ≠ tt := fun z => by subst z; rw [upd_same] at hdx; cases hdx
  have hdx' : H dx = none := by rw [upd_ne hdt, upd_ne hne] at hdx; exact hdx
  have ht' : H tt = none := by rw [upd_ne hta] at ht; exact ht
  have hH : upd (L2.del (upd (upd (upd (upd H a (exo a (T t) none)) tt (.tup [])) dx (exd dx [(f, .ref tt)])) a (exo a (T t) (some dx))) a) dx (.xd [(f, .ref tt)]) = upd (upd H tt (.tup [])) dx (.xd [(f, .ref tt)]) := by
    funext b
    by_cases hb : b = dx
    · subst hb; rw [upd_same, upd_same]
    · rw [upd_ne hb, upd_ne hb]
      by_cases hba : b = a
      · subst hba; rw [del_same, upd_ne (Ne.symm hta), ha]
      · rw [del_ne hba, upd_ne hba, upd_ne hb]
        by_cases hbt : b = tt
        · subst hbt; rw [upd_same, upd_same]
        · rw [upd_ne hbt, upd_ne hbt, upd_ne hba]
  rw [hH]
  have e1 := Ext.new (S := S) (H := H) (p := tt) (o := .tup []) o.sh ht'
  have e2 := Ext.new (S := upd S tt (.tup [])) (H := upd H tt (.tup [])) (p := dx) (o := .xd [(f, .ref tt)]) (o.ext e1).sh (by rw [upd_ne hdt]; exact hdx')
  have e12 := e1.trans e2
  have e3 := Ext.new (S := upd (upd S tt (.tup [])) dx (.xd [(f, .ref tt)])) (H := upd (upd H tt (.tup [])) dx (.xd [(f, .ref tt)])) (p := a) (o := ExK (T t) dx a) (o.ext e12).sh (by rw [upd_ne (Ne.symm hne), upd_ne (Ne.symm hta)]; exact ha)
  have e4 := e12.trans e3
  exact p _ _ _ e4.s (o.ext e4) ⟨a, [.ref tt], rfl, .inl ⟨ie, dx, upd_same, by rw [upd_ne hne, upd_same, hf]; rfl⟩, .ref tt, [], rfl, ⟨tt, [], rfl, SqT.of (by rw [upd_ne hta, upd_ne (Ne.symm hdt), upd_same]), rfl⟩, rfl⟩
theorem kwS_of {K : PySem.W.Frag} {x qual f : Str} {st : Stmt} {fI : Addr} {fd : FuncData} (F : Fun K x qual st fI fd)
    (h : ∀ (kV doc pm : Value) (an : Option Addr) (cdv ct a v : Value), bindArgs (PySem.W.fnOf x qual (defArgs st) (defBody st) (defScope st) .none kV doc pm an cdv ct) ⟨[a], [(f, v)]⟩ = pure [(("self" : Str), a), (f, v)]) : KwS K fd f := by
  obtain ⟨oc, od, kV, doc, pm, an, cdv, ct, osl, rfl, lk, hcd⟩ := F.ex
  exact fun s a v _ => .of_eq (h kV doc pm an cdv ct a v)
end
section
variable {ρ ρ1 : Rho} {fs : Rho → R (List VD)} {d : D}
theorem ev_mk {t : Nat} (h : fs ρ = .ok [.d d] ρ1) : mkE t fs ρ = .ok (.d (.obj t [d])) ρ1 := by simp only [mkE, h, R.bind, datAll]
theorem ev_mk0 {t : Nat} : mkE0 t ρ = .ok (.d (.obj t [.tup []])) ρ := rfl
end
end Lq
namespace Lq
open PySem PySem.Spec PyProof.Rows L2
/-! ### clauses of several classes: except (A, B, C) as n -/
section
variable {X : Cx} {pins : List (Addr × Obj)} {σ : L2.St} {H : Hp} {a : Addr} {cls : Value} {d : Option Addr} {B : Heap} {s0 s : Shared}
theorem Down.grown (w : Down X pins σ H a cls d B s0 s) {h' : Heap} (k : ∀ b o, s.heap.get? b = some o → h'.get? b = some o) : Down X pins σ H a cls d B s0 { s with heap := h' } :=
  ⟨w.inv, w.gr, w.up.trans (Heap.UpToSlots.of_keeps k), w.no, w.os, w.bare, fun b o q => k b o (w.fly.1 b o q), w.fly.2.1, Heap.FunFrames.of_keeps (fun b o q _ => ⟨o, k b o q, rfl⟩) w.fly.2.2.1, by
    obtain ⟨oe, vs, t, ot, ts, h1, h2, h3, h4, h5, h6, h7, h8⟩ := w.fly.2.2.2
    exact ⟨oe, vs, t, ot, ts, k _ _ h1, h2, h3, h4, h5, h6, k _ _ h7, h8⟩⟩
/-- an expression that tells the classes cs of a clause -/
def Tst (X : Cx) (t : Expr) (cs : List Value) : Prop := ∀ (pins : List (Addr × Obj)) (σ : L2.St) (H : Hp) (a : Addr) (cls : Value) (d : Option Addr) (B : Heap) (s0 s : Shared) (b : Bool), Down X pins σ H a cls d B s0 s → PySem.W.exmAny X.K cls cs = some b →
  ∀ (Q : Bool → Shared → Prop) (E : Value → Shared → Prop), (∀ h', (∀ q o, s.heap.get? q = some o → h'.get? q = some o) → Q b { s with heap := h' }) →
    wpAny (model X.prog X.w) (X.A.mark (some (.ref a))) (eval t X.env) (fun c s1 => wpAny (model X.prog X.w) (X.A.mark (some (.ref a))) (excMatches (.ref a) c) Q E s1) E s
theorem Down.ty (w : Down X pins σ H a cls d B s0 s) : PySem.W.Looks (model X.prog X.w) s.heap (typeOf (.ref a)) cls := by
  obtain ⟨oe, vs, e, z, _⟩ := w.obj
  exact fun A Q E s k q => wpAny_typeOf_ref (k _ _ e) (z.1.symm ▸ q)
theorem tst_2 {x1 x2 : Str} {c1 c2 : Value} {p1 p2 tpos : Pos} {kk : Nat} (n1 : Names X x1 c1) (n2 : Names X x2 c2) : Tst X (.Tuple [.Name x1 p1, .Name x2 p2] kk tpos) [c1, c2] := fun pins σ H a cls d B s0 s b w he Q E q => by
  refine wpAny_Tuple (wpAny_items_cons (w.names n1 (wpAny_items_cons (w.names n2 (wpAny_items_nil ⟨by size_fits, ?_⟩)))))
  have kp : ∀ q o, s.heap.get? q = some o → (s.heap.push { cls := .type "tuple", data := .seq [c1, c2].toArray }).get? q = some o := fun _ _ z => Heap.get?_push_of_some _ z
  exact (PySem.W.exm_tup2 (w.here.kIn.keeps kp) (w.ty.keeps kp) (Heap.get?_push_size s.heap rfl) he).here (q _ kp)
theorem tst_3 {x1 x2 x3 : Str} {c1 c2 c3 : Value} {p1 p2 p3 tpos : Pos} {kk : Nat} (n1 : Names X x1 c1) (n2 : Names X x2 c2) (n3 : Names X x3 c3) : Tst X (.Tuple [.Name x1 p1, .Name x2 p2, .Name x3 p3] kk tpos) [c1, c2, c3] := fun pins σ H a cls d B s0 s b w he Q E q => by
  refine wpAny_Tuple (wpAny_items_cons (w.names n1 (wpAny_items_cons (w.names n2 (wpAny_items_cons (w.names n3 (wpAny_items_nil ⟨by size_fits, ?_⟩)))))))
  have kp : ∀ q o, s.heap.get? q = some o → (s.heap.push { cls := .type "tuple", data := .seq [c1, c2, c3].toArray }).get? q = some o := fun _ _ z => Heap.get?_push_of_some _ z
  exact (PySem.W.exm_tup3 (w.here.kIn.keeps kp) (w.ty.keeps kp) (Heap.get?_push_size s.heap rfl) he).here (q _ kp)
theorem tst_4 {x1 x2 x3 x4 : Str} {c1 c2 c3 c4 : Value} {p1 p2 p3 p4 tpos : Pos} {kk : Nat} (n1 : Names X x1 c1) (n2 : Names X x2 c2) (n3 : Names X x3 c3) (n4 : Names X x4 c4) : Tst X (.Tuple [.Name x1 p1, .Name x2 p2, .Name x3 p3, .Name x4 p4] kk tpos) [c1, c2, c3, c4] := fun pins σ H a cls d B s0 s b w he Q E q => by
  refine wpAny_Tuple (wpAny_items_cons (w.names n1 (wpAny_items_cons (w.names n2 (wpAny_items_cons (w.names n3 (wpAny_items_cons (w.names n4 (wpAny_items_nil ⟨by size_fits, ?_⟩)))))))))
  have kp : ∀ q o, s.heap.get? q = some o → (s.heap.push { cls := .type "tuple", data := .seq [c1, c2, c3, c4].toArray }).get? q = some o := fun _ _ z => Heap.get?_push_of_some _ z
  exact (PySem.W.exm_tup4 (w.here.kIn.keeps kp) (w.ty.keeps kp) (Heap.get?_push_size s.heap rfl) he).here (q _ kp)
end
section
variable {X : Cx} {n : Str} {cs : List Value} {i : Nat} {body suite : List Stmt} {b₀ : Stmt} {hs : List ExceptHandler} {pos' : Pos} {ts : TS} {w : Ends → WX} {tx : Expr}
def wClauses (K : PySem.W.Frag) (cs : List Value) (i : Nat) (ts : TS) (w : Ends → WX) (D : Ends) : WX := fun cls d σ H =>
  ∃ b, PySem.W.exmAny K cls cs = some b ∧ (b = false → w D cls d σ H) ∧ (b = true → ∃ C dd, cls = .ref C ∧ d = some dd ∧ ∀ a, H a = none →
    ts { nx := fun σ' H' => D.nx (σ'.set i none) H', rt := D.rt, bk := fun σ' H' => D.bk (σ'.set i none) H', ct := fun σ' H' => D.ct (σ'.set i none) H' } (σ.set i (some (.ref a))) (upd H a (ExK C dd a)))
theorem ph_asT (hst : X.stack = X.env :: X.outer) (hf : X.env.frame = some X.env.locals) (hex : X.ex = []) (hN : X.N.Nodup) (hi : X.N[i]? = some n) (hl : X.env.kindOf n = some .local) (hc : Tst X tx cs)
    (hsu : ∀ (a : Addr) (pn : List (Addr × Obj)), PSs (X.suite a pn) (b₀ :: suite) ts) (hr : PH X hs w) : PH X (.ExceptHandler (some tx) (some n) (b₀ :: suite) pos' :: hs) (wClauses X.K cs i ts w) := by
  intro pins σ H a cls d B s0 s De dn hw
  obtain ⟨b, hb, hno, hyes⟩ := hw
  refine wpAny_handleBy_cons (codeAny_handlers_test (hc pins σ H a cls d B s0 s b dn hb _ _ fun h' kp => ?_)) (fun q => nomatch q)
  have dg := dn.grown kp
  cases b with
  | true =>
    obtain ⟨C, dd, rfl, rfl, hy⟩ := hyes rfl
    refine codeAny_handlers_suite_as (HandSPX.lands_againZ dg.fly fun h fl up => ?_)
    have w' : Down X pins σ H a (.ref C) (some dd) B s0 { s with heap := h } := ⟨dg.inv, dg.gr, dg.up.trans up, dg.no, dg.os, dg.bare, fl⟩
    refine store_ok (X := X.suite a (X.pn ++ pins)) (v := .ref a) (inv_in (w'.known hst hf hex) a) hN hi (Or.inl hl) rfl (fun s5 I5 => ?_) (Or.inr hl)
    exact wpAny_mono ((hsu a (X.pn ++ pins)).run [] s5 _ _ _ I5 (hy a dg.no)) (fun f s6 q => suite_end dg.inv.ok hN hi hl q) fun _ _ z => z.elim
  | false =>
    exact hr pins σ H a cls d B s0 _ De dg (hno rfl)
end
section
variable {X : Cx} {T : Tb} {W : WX} {n : Str} {cs : List Value} {i : Nat} {suite : List Stmt} {b₀ : Stmt} {hs : List ExceptHandler} {pos' : Pos} {g : Rho → O} {h : Xn → Rho → O} {ex : List (Nat × Bool)} {tx : Expr}
theorem xh_asT (i : Nat) (hst : X.stack = X.env :: X.outer) (hf : X.env.frame = some X.env.locals) (hex : X.ex = []) (hN : X.N.Nodup) (hc : Tst X tx cs) (hx : ∀ t b, ex.lookup t = some b → PySem.W.exmAny X.K (.ref (T t)) cs = some b)
    (hsu : ∀ (a : Addr) (pn : List (Addr × Obj)), XB (X.suite a pn) T W0 (b₀ :: suite) g) (hr : XH X T W hs h) (hi : X.N[i]? = some n := by rfl) (hl : X.env.kindOf n = some .local := by rfl) : XH X T W (.ExceptHandler (some tx) (some n) (b₀ :: suite) pos' :: hs) (hAs ex i g h) :=
  (ph_asT (ts := rS X.K T W0 g) hst hf hex hN hi hl hc hsu hr).impQ fun De cls d σ H q => by
    obtain ⟨β, G, S, ρ, x, o, xr, p⟩ := q
    obtain ⟨rfl, dd, vs, rfl, hd, rps⟩ := xr
    unfold hAs at p
    cases hb : ex.lookup x.t with
    | none => rw [hb] at p; exact p.elim
    | some b =>
      refine ⟨b, hx _ _ hb, fun z => ?_, fun z => ?_⟩
      · subst z
        rw [hb] at p
        exact ⟨β, G, S, ρ, x, o, ⟨rfl, dd, vs, rfl, hd, rps⟩, p⟩
      · subst z
        rw [hb] at p
        dsimp only at p
        split at p
        case isFalse => exact p.elim
        case isTrue ie =>
        refine ⟨_, _, rfl, rfl, fun a ha => ?_⟩
        have e1 := Ext.new (S := S) (H := H) (p := a) (o := ExK (T x.t) dd a) o.sh ha
        have sn : Same S (upd S a (ExK (T x.t) dd a)) := same_new (o.sh.free ha)
        have o1 := (o.ext e1).setD (i := i) (x := .obj x.t x.fs) (v := .ref a) ⟨a, vs, rfl, .inl ⟨ie, dd, upd_same, sn _ _ hd⟩, Rps.mono sn _ _ rps⟩
        refine ⟨β, G, _, _, o1, ?_⟩
        have p1 := p.mono sn
        revert p1
        cases g (ρ.set i (.d (.obj x.t x.fs))) with
        | nx ρ1 => exact fun p1 S' σ' H' e o' => p1 S' _ H' e o'.setN
        | bk ρ1 => exact fun p1 S' σ' H' e o' => p1 S' _ H' e o'.setN
        | ct ρ1 => exact fun p1 S' σ' H' e o' => p1 S' _ H' e o'.setN
        | rt v ρ1 => exact fun p1 => p1
        | rf ds ρ1 => exact fun p1 => p1
        | err x ρ1 => exact fun p1 => p1.elim
        | bad => exact fun p1 => p1
theorem exm_any1 {K : PySem.W.Frag} {cls c : Value} {b : Bool} (h : PySem.W.exmOne K cls c = some b) : PySem.W.exmAny K cls [c] = some (b || false) := by simp only [PySem.W.exmAny, h]
theorem exm_anyC {K : PySem.W.Frag} {cls c : Value} {cs : List Value} {b d : Bool} (h : PySem.W.exmOne K cls c = some b) (h2 : PySem.W.exmAny K cls cs = some d) : PySem.W.exmAny K cls (c :: cs) = some (b || d) := by simp only [PySem.W.exmAny, h, h2]
theorem exsT_nil {K : PySem.W.Frag} {T : Tb} {cs : List Value} : ∀ t b, List.lookup t ([] : List (Nat × Bool)) = some b → PySem.W.exmAny K (.ref (T t)) cs = some b := fun t b h => by cases h
theorem exsT_cons {K : PySem.W.Frag} {T : Tb} {cs : List Value} {u : Nat} {v : Bool} {l : List (Nat × Bool)} (h : PySem.W.exmAny K (.ref (T u)) cs = some v) (hr : ∀ t b, List.lookup t l = some b → PySem.W.exmAny K (.ref (T t)) cs = some b) : ∀ t b, List.lookup t ((u, v) :: l) = some b → PySem.W.exmAny K (.ref (T t)) cs = some b := fun t b hl => by
  rw [List.lookup_cons] at hl
  split at hl
  · rename_i e
    cases hl
    rw [show t = u from eq_of_beq e]
    exact h
  · exact hr t b hl
end
end Lq
namespace Lw
open PySem PySem.Spec PyProof.Rows L2 Lq
def topS (i : Nat) : Stmt := PySem.Challenge.pw_heirturns_k37_lists_that_are_changed.main.body.getD i (.Pass ⟨0, 0, 0, 0⟩)
abbrev s_set_of : Stmt := topS 6
abbrev s_list_exchanged : Stmt := topS 8
abbrev s_thing_put : Stmt := topS 9
abbrev s_thing_left_out : Stmt := topS 10
abbrev s_share_change : Stmt := topS 11
abbrev s_law_box : Stmt := topS 13
abbrev s_law_take : Stmt := topS 14
abbrev s_law_cells : Stmt := topS 15
abbrev s_law_of : Stmt := topS 16
abbrev s_law_same : Stmt := topS 17
abbrev s_law_pick : Stmt := topS 18
abbrev s_law_likes : Stmt := topS 19
abbrev s_law_heard : Stmt := topS 20
abbrev s_law_due : Stmt := topS 21
abbrev s_law_shares_right : Stmt := topS 23
abbrev s_law_by_hand_right : Stmt := topS 22
abbrev s_law_right : Stmt := topS 24
abbrev s_law : Stmt := topS 25
abbrev si_NoThing : Stmt := clsAt (topS 2) 0
abbrev si_NoPlace : Stmt := clsAt (topS 3) 0
abbrev si_Known : Stmt := clsAt (topS 4) 0
/-- what stands behind the top -/
structure Tx (K : PySem.W.Frag) (mg : Str → Option Value) (T : Tb) where
  a_set_of : Addr
  d_set_of : FuncData
  F_set_of : Fun K "set_of" "set_of" s_set_of a_set_of d_set_of
  g_set_of : mg "set_of" = some (.ref a_set_of)
  a_list_exchanged : Addr
  d_list_exchanged : FuncData
  F_list_exchanged : Fun K "list_exchanged" "list_exchanged" s_list_exchanged a_list_exchanged d_list_exchanged
  g_list_exchanged : mg "list_exchanged" = some (.ref a_list_exchanged)
  a_thing_put : Addr
  d_thing_put : FuncData
  F_thing_put : Fun K "thing_put" "thing_put" s_thing_put a_thing_put d_thing_put
  g_thing_put : mg "thing_put" = some (.ref a_thing_put)
  a_thing_left_out : Addr
  d_thing_left_out : FuncData
  F_thing_left_out : Fun K "thing_left_out" "thing_left_out" s_thing_left_out a_thing_left_out d_thing_left_out
  g_thing_left_out : mg "thing_left_out" = some (.ref a_thing_left_out)
  a_share_change : Addr
  d_share_change : FuncData
  F_share_change : Fun K "share_change" "share_change" s_share_change a_share_change d_share_change
  g_share_change : mg "share_change" = some (.ref a_share_change)
  a_law_box : Addr
  d_law_box : FuncData
  F_law_box : Fun K "_law_box" "_law_box" s_law_box a_law_box d_law_box
  g_law_box : mg "_law_box" = some (.ref a_law_box)
  a_law_take : Addr
  d_law_take : FuncData
  F_law_take : Fun K "_law_take" "_law_take" s_law_take a_law_take d_law_take
  g_law_take : mg "_law_take" = some (.ref a_law_take)
  a_law_cells : Addr
  d_law_cells : FuncData
  F_law_cells : Fun K "_law_cells" "_law_cells" s_law_cells a_law_cells d_law_cells
  g_law_cells : mg "_law_cells" = some (.ref a_law_cells)
  a_law_of : Addr
  d_law_of : FuncData
  F_law_of : Fun K "_law_of" "_law_of" s_law_of a_law_of d_law_of
  g_law_of : mg "_law_of" = some (.ref a_law_of)
  a_law_same : Addr
  d_law_same : FuncData
  F_law_same : Fun K "_law_same" "_law_same" s_law_same a_law_same d_law_same
  g_law_same : mg "_law_same" = some (.ref a_law_same)
  a_law_pick : Addr
  d_law_pick : FuncData
  F_law_pick : Fun K "_law_pick" "_law_pick" s_law_pick a_law_pick d_law_pick
  g_law_pick : mg "_law_pick" = some (.ref a_law_pick)
  a_law_likes : Addr
  d_law_likes : FuncData
  F_law_likes : Fun K "_law_likes" "_law_likes" s_law_likes a_law_likes d_law_likes
  g_law_likes : mg "_law_likes" = some (.ref a_law_likes)
  a_law_heard : Addr
  d_law_heard : FuncData
  F_law_heard : Fun K "_law_heard" "_law_heard" s_law_heard a_law_heard d_law_heard
  g_law_heard : mg "_law_heard" = some (.ref a_law_heard)
  a_law_due : Addr
  d_law_due : FuncData
  F_law_due : Fun K "_law_due" "_law_due" s_law_due a_law_due d_law_due
  g_law_due : mg "_law_due" = some (.ref a_law_due)
  a_law_shares_right : Addr
  d_law_shares_right : FuncData
  F_law_shares_right : Fun K "_law_shares_right" "_law_shares_right" s_law_shares_right a_law_shares_right d_law_shares_right
  g_law_shares_right : mg "_law_shares_right" = some (.ref a_law_shares_right)
  a_law_by_hand_right : Addr
  d_law_by_hand_right : FuncData
  F_law_by_hand_right : Fun K "_law_by_hand_right" "_law_by_hand_right" s_law_by_hand_right a_law_by_hand_right d_law_by_hand_right
  g_law_by_hand_right : mg "_law_by_hand_right" = some (.ref a_law_by_hand_right)
  a_law_right : Addr
  d_law_right : FuncData
  F_law_right : Fun K "_law_right" "_law_right" s_law_right a_law_right d_law_right
  g_law_right : mg "_law_right" = some (.ref a_law_right)
  a_law : Addr
  d_law : FuncData
  F_law : Fun K "law" "law" s_law a_law d_law
  g_law : mg "law" = some (.ref a_law)
  fI_NoThing : Addr
  fd_NoThing : FuncData
  E_NoThing : EC K mg "NoThing" "name" (T 3) fI_NoThing
  FI_NoThing : Fun K "__init__" "NoThing.__init__" si_NoThing fI_NoThing fd_NoThing
  fI_NoPlace : Addr
  fd_NoPlace : FuncData
  E_NoPlace : EC K mg "NoPlace" "number" (T 4) fI_NoPlace
  FI_NoPlace : Fun K "__init__" "NoPlace.__init__" si_NoPlace fI_NoPlace fd_NoPlace
  fI_Known : Addr
  fd_Known : FuncData
  E_Known : EC K mg "Known" "name" (T 9) fI_Known
  FI_Known : Fun K "__init__" "Known.__init__" si_Known fI_Known fd_Known
  ec_NoThing : ExcC K (T 3)
  ec_NoPlace : ExcC K (T 4)
  ec_Known : ExcC K (T 9)
  ex_NoThing_Known : PySem.W.exmOne K (.ref (T 3)) (.ref (T 9)) = some false
  ex_NoPlace_Known : PySem.W.exmOne K (.ref (T 4)) (.ref (T 9)) = some false
  ex_Known_Known : PySem.W.exmOne K (.ref (T 9)) (.ref (T 9)) = some true
  ex_NoThing_NoPlace : PySem.W.exmOne K (.ref (T 3)) (.ref (T 4)) = some false
  ex_NoPlace_NoPlace : PySem.W.exmOne K (.ref (T 4)) (.ref (T 4)) = some true
  ex_Known_NoPlace : PySem.W.exmOne K (.ref (T 9)) (.ref (T 4)) = some false
  ex_NoThing_NoThing : PySem.W.exmOne K (.ref (T 3)) (.ref (T 3)) = some true
  ex_NoPlace_NoThing : PySem.W.exmOne K (.ref (T 4)) (.ref (T 3)) = some false
  ex_Known_NoThing : PySem.W.exmOne K (.ref (T 9)) (.ref (T 3)) = some false
  ki_NoThing_NoPlace : PySem.W.kitOne K (.ref (T 3)) (.ref (T 4)) = some false
  ki_NoPlace_NoPlace : PySem.W.kitOne K (.ref (T 4)) (.ref (T 4)) = some true
  ki_Known_NoPlace : PySem.W.kitOne K (.ref (T 9)) (.ref (T 4)) = some false
  ki_NoThing_ValueError : PySem.W.kitOne K (.ref (T 3)) (.type "ValueError") = some true
  ki_NoPlace_ValueError : PySem.W.kitOne K (.ref (T 4)) (.type "ValueError") = some true
  ki_Known_ValueError : PySem.W.kitOne K (.ref (T 9)) (.type "ValueError") = some true
  ki_NoThing_Known : PySem.W.kitOne K (.ref (T 3)) (.ref (T 9)) = some false
  ki_NoPlace_Known : PySem.W.kitOne K (.ref (T 4)) (.ref (T 9)) = some false
  ki_Known_Known : PySem.W.kitOne K (.ref (T 9)) (.ref (T 9)) = some true
  z_ValueError : mg "ValueError" = none
  z_abs : mg "abs" = none
  z_all : mg "all" = none
  z_bool : mg "bool" = none
  z_enumerate : mg "enumerate" = none
  z_int : mg "int" = none
  z_isinstance : mg "isinstance" = none
  z_len : mg "len" = none
  z_list : mg "list" = none
  z_min : mg "min" = none
  z_range : mg "range" = none
  z_set : mg "set" = none
  z_sorted : mg "sorted" = none
  z_str : mg "str" = none
  z_tuple : mg "tuple" = none
  z_zip : mg "zip" = none
section
variable {P : Program} {w : World} {K : PySem.W.Frag} {mg : Str → Option Value} {base : Heap} {T : Tb}
theorem sci_NoThing : FnScope ["self", "name"] ["self", "name"] (defScope si_NoThing) := ⟨rfl, rfl, rfl, by decide +kernel, rfl, by decide +kernel, by decide +kernel⟩
theorem bI_NoThing (tx : Tx K mg T) : Binds K tx.fd_NoThing ["self", "name"] [] := tx.FI_NoThing.binds fun _ _ _ _ _ _ us hl => match us, hl with | [_, _], _ => rfl
theorem in_NoThing (tx : Tx K mg T) : FnOk P w K mg base (L2.CX P w) 1 tx.fI_NoThing tx.fd_NoThing ["self", "name"] (spIn K (T 3) "name") := fn_in1 tx.FI_NoThing sci_NoThing rfl tx.E_NoThing.ox tx.E_NoThing.noF (fun _ _ _ _ _ _ => pss_one (ps_ost (pv 0) (pv 1)))
theorem sci_NoPlace : FnScope ["self", "number"] ["self", "number"] (defScope si_NoPlace) := ⟨rfl, rfl, rfl, by decide +kernel, rfl, by decide +kernel, by decide +kernel⟩
theorem bI_NoPlace (tx : Tx K mg T) : Binds K tx.fd_NoPlace ["self", "number"] [] := tx.FI_NoPlace.binds fun _ _ _ _ _ _ us hl => match us, hl with | [_, _], _ => rfl
theorem in_NoPlace (tx : Tx K mg T) : FnOk P w K mg base (L2.CX P w) 1 tx.fI_NoPlace tx.fd_NoPlace ["self", "number"] (spIn K (T 4) "number") := fn_in1 tx.FI_NoPlace sci_NoPlace rfl tx.E_NoPlace.ox tx.E_NoPlace.noF (fun _ _ _ _ _ _ => pss_one (ps_ost (pv 0) (pv 1)))
theorem sci_Known : FnScope ["self", "name"] ["self", "name"] (defScope si_Known) := ⟨rfl, rfl, rfl, by decide +kernel, rfl, by decide +kernel, by decide +kernel⟩
theorem bI_Known (tx : Tx K mg T) : Binds K tx.fd_Known ["self", "name"] [] := tx.FI_Known.binds fun _ _ _ _ _ _ us hl => match us, hl with | [_, _], _ => rfl
theorem in_Known (tx : Tx K mg T) : FnOk P w K mg base (L2.CX P w) 1 tx.fI_Known tx.fd_Known ["self", "name"] (spIn K (T 9) "name") := fn_in1 tx.FI_Known sci_Known rfl tx.E_Known.ox tx.E_Known.noF (fun _ _ _ _ _ _ => pss_one (ps_ost (pv 0) (pv 1)))
theorem hx_Known (tx : Tx K mg T) : ∀ t b, List.lookup t ([(3, false), (4, false), (9, true)] : List (Nat × Bool)) = some b → PySem.W.exmOne K (.ref (T t)) (.ref (T 9)) = some b := (exs_cons tx.ex_NoThing_Known (exs_cons tx.ex_NoPlace_Known (exs_cons tx.ex_Known_Known exs_nil)))
theorem hx_NoPlace (tx : Tx K mg T) : ∀ t b, List.lookup t ([(3, false), (4, true), (9, false)] : List (Nat × Bool)) = some b → PySem.W.exmOne K (.ref (T t)) (.ref (T 4)) = some b := (exs_cons tx.ex_NoThing_NoPlace (exs_cons tx.ex_NoPlace_NoPlace (exs_cons tx.ex_Known_NoPlace exs_nil)))
theorem hx_NoThing (tx : Tx K mg T) : ∀ t b, List.lookup t ([(3, true), (4, false), (9, false)] : List (Nat × Bool)) = some b → PySem.W.exmOne K (.ref (T t)) (.ref (T 3)) = some b := (exs_cons tx.ex_NoThing_NoThing (exs_cons tx.ex_NoPlace_NoThing (exs_cons tx.ex_Known_NoThing exs_nil)))
theorem hxT_Known_NoPlace_NoThing (tx : Tx K mg T) : ∀ t b, List.lookup t ([(3, true), (4, true), (9, true)] : List (Nat × Bool)) = some b → PySem.W.exmAny K (.ref (T t)) [.ref (T 9), .ref (T 4), .ref (T 3)] = some b := (exsT_cons (v := true) (exm_anyC tx.ex_NoThing_Known (exm_anyC tx.ex_NoThing_NoPlace (exm_any1 tx.ex_NoThing_NoThing))) (exsT_cons (v := true) (exm_anyC tx.ex_NoPlace_Known (exm_anyC tx.ex_NoPlace_NoPlace (exm_any1 tx.ex_NoPlace_NoThing))) (exsT_cons (v := true) (exm_anyC tx.ex_Known_Known (exm_anyC tx.ex_Known_NoPlace (exm_any1 tx.ex_Known_NoThing))) exsT_nil)))
theorem hi_NoPlace (tx : Tx K mg T) : ∀ t b, List.lookup t ([(3, false), (4, true), (9, false)] : List (Nat × Bool)) = some b → ExcC K (T t) ∧ PySem.W.kitOne K (.ref (T t)) (.ref (T 4)) = some b := (exi_cons tx.ec_NoThing tx.ki_NoThing_NoPlace (exi_cons tx.ec_NoPlace tx.ki_NoPlace_NoPlace (exi_cons tx.ec_Known tx.ki_Known_NoPlace exi_nil)))
theorem hi_ValueError (tx : Tx K mg T) : ∀ t b, List.lookup t ([(3, true), (4, true), (9, true)] : List (Nat × Bool)) = some b → ExcC K (T t) ∧ PySem.W.kitOne K (.ref (T t)) (.type "ValueError") = some b := (exi_cons tx.ec_NoThing tx.ki_NoThing_ValueError (exi_cons tx.ec_NoPlace tx.ki_NoPlace_ValueError (exi_cons tx.ec_Known tx.ki_Known_ValueError exi_nil)))
theorem hi_Known (tx : Tx K mg T) : ∀ t b, List.lookup t ([(3, false), (4, false), (9, true)] : List (Nat × Bool)) = some b → ExcC K (T t) ∧ PySem.W.kitOne K (.ref (T t)) (.ref (T 9)) = some b := (exi_cons tx.ec_NoThing tx.ki_NoThing_Known (exi_cons tx.ec_NoPlace tx.ki_NoPlace_Known (exi_cons tx.ec_Known tx.ki_Known_Known exi_nil)))
theorem kp_share_change_10 (tx : Tx K mg T) : KwP K tx.d_share_change ["before", "after"] ["after", "before"] [1, 0] := kwP_of tx.F_share_change fun _ _ _ _ _ _ us hl => match us, hl with | [_, _], _ => rfl
theorem kp_thing_put_210 (tx : Tx K mg T) : KwP K tx.d_thing_put ["things", "place", "name"] ["name", "place", "things"] [2, 1, 0] := kwP_of tx.F_thing_put fun _ _ _ _ _ _ us hl => match us, hl with | [_, _, _], _ => rfl
theorem kp_list_exchanged_10 (tx : Tx K mg T) : KwP K tx.d_list_exchanged ["things", "place"] ["place", "things"] [1, 0] := kwP_of tx.F_list_exchanged fun _ _ _ _ _ _ us hl => match us, hl with | [_, _], _ => rfl
theorem kp_thing_left_out_10 (tx : Tx K mg T) : KwP K tx.d_thing_left_out ["things", "name"] ["name", "things"] [1, 0] := kwP_of tx.F_thing_left_out fun _ _ _ _ _ _ us hl => match us, hl with | [_, _], _ => rfl
/-! #### set_of -/
theorem sc_set_of : FnScope ["some"] ["some"] (defScope s_set_of) := ⟨rfl, rfl, rfl, by decide +kernel, rfl, by decide +kernel, by decide +kernel⟩
theorem b_set_of (tx : Tx K mg T) : Binds K tx.d_set_of ["some"] [] := tx.F_set_of.binds fun _ _ _ _ _ _ us hl => match us, hl with | [_], _ => rfl
theorem kw_set_of (tx : Tx K mg T) : KwB K tx.d_set_of ["some"] := kwB_of tx.F_set_of fun _ _ _ _ _ _ us hl => match us, hl with | [_], _ => rfl
def m_set_of : Rho → O := (retS (opNE tupleTD (consA (frzE (opNF sortSetF (consA (nameE 0) nilA))) nilA)))
def f_set_of : List D → Res := runF 1 1 m_set_of
theorem ok_set_of (tx : Tx K mg T) : FnOk P w K mg base (L2.CX P w) 1 tx.a_set_of tx.d_set_of ["some"] (spP K T 1 f_set_of) :=
    fn_pure tx.F_set_of sc_set_of (by decide) fun cdv A outer s H E hr tk hp =>
      (xb_one (xs_ret (xe_callTy (call_tupleA rfl) p_tupleT tx.z_tuple (by decide +kernel) (xa_cons (XF.xe (xf_sortSet rfl tx.z_sorted tx.z_set (xa_cons (xe_name 0) xa_nil))) xa_nil))))
/-! #### list_exchanged -/
theorem sc_list_exchanged : FnScope ["things", "place"] ["things", "place"] (defScope s_list_exchanged) := ⟨rfl, rfl, rfl, by decide +kernel, rfl, by decide +kernel, by decide +kernel⟩
theorem b_list_exchanged (tx : Tx K mg T) : Binds K tx.d_list_exchanged ["things", "place"] [] := tx.F_list_exchanged.binds fun _ _ _ _ _ _ us hl => match us, hl with | [_, _], _ => rfl
theorem kw_list_exchanged (tx : Tx K mg T) : KwB K tx.d_list_exchanged ["things", "place"] := kwB_of tx.F_list_exchanged fun _ _ _ _ _ _ us hl => match us, hl with | [_, _], _ => rfl
def m_list_exchanged : Rho → O := (seqS (ifS (notT (valT (chainE leD ltD (constE (.int 1)) (nameE 1) (opNE lenD (consA (nameE 0) nilA))))) (raiseS 4 (consA (nameE 1) nilA)) nextS)
  (retS (tupE (starA (slE (nameE 0) noPart (aPart (op2E subD (nameE 1) (constE (.int 1))))) (consA (op2E atD (nameE 0) (nameE 1)) (consA (op2E atD (nameE 0) (op2E subD (nameE 1) (constE (.int 1)))) (starA (slE (nameE 0) (aPart (op2E addD (nameE 1) (constE (.int 1)))) noPart) nilA)))))))
def f_list_exchanged : List D → Res := runF 2 2 m_list_exchanged
theorem ok_list_exchanged (tx : Tx K mg T) : FnOk P w K mg base (L2.CX P w) 3 tx.a_list_exchanged tx.d_list_exchanged ["things", "place"] (spP K T 2 f_list_exchanged) :=
    fn_pure tx.F_list_exchanged sc_list_exchanged (by decide) fun cdv A outer s H E hr tk hp =>
      (xb_cons (xs_if (xt_not (xt_chain op_le p_le op_ltA p_lt xe_int (xe_name 1) (xe_callB call_len p_len tx.z_len (by decide +kernel) (xa_cons (xe_name 0) xa_nil)))) (xb_one (xs_raise1 (t := 4) rfl tk tx.E_NoPlace (in_NoPlace tx) (hr.mono (by decide)) (bI_NoPlace tx) rfl (xa_cons (xe_name 1) xa_nil))) xb_nil)
      (xb_one (xs_ret (xe_tup (xa_star (xe_sl (xe_name 0) xo_none (xo_some (xe_op op_sub p_sub (xe_name 1) xe_int))) (xa_cons (xe_ix ix_seq p_ix (xe_name 0) (xe_name 1)) (xa_cons (xe_ix ix_seq p_ix (xe_name 0) (xe_op op_sub p_sub (xe_name 1) xe_int)) (xa_star (xe_sl (xe_name 0) (xo_some (xe_op op_addA p_add (xe_name 1) xe_int)) xo_none) xa_nil))))))))
/-! #### thing_put -/
theorem sc_thing_put : FnScope ["things", "place", "name"] ["things", "place", "name"] (defScope s_thing_put) := ⟨rfl, rfl, rfl, by decide +kernel, rfl, by decide +kernel, by decide +kernel⟩
theorem b_thing_put (tx : Tx K mg T) : Binds K tx.d_thing_put ["things", "place", "name"] [] := tx.F_thing_put.binds fun _ _ _ _ _ _ us hl => match us, hl with | [_, _, _], _ => rfl
theorem kw_thing_put (tx : Tx K mg T) : KwB K tx.d_thing_put ["things", "place", "name"] := kwB_of tx.F_thing_put fun _ _ _ _ _ _ us hl => match us, hl with | [_, _, _], _ => rfl
def m_thing_put : Rho → O := (seqS (ifS (notT (valT (chainE leD leD (constE (.int 1)) (nameE 1) (op2E addD (opNE lenD (consA (nameE 0) nilA)) (constE (.int 1)))))) (raiseS 4 (consA (nameE 1) nilA)) nextS)
  (seqS (ifS (valT (op2E inD (nameE 2) (nameE 0))) (raiseS 9 (consA (nameE 2) nilA)) nextS)
  (retS (tupE (starA (slE (nameE 0) noPart (aPart (op2E subD (nameE 1) (constE (.int 1))))) (consA (nameE 2) (starA (slE (nameE 0) (aPart (op2E subD (nameE 1) (constE (.int 1)))) noPart) nilA)))))))
def f_thing_put : List D → Res := runF 3 3 m_thing_put
theorem ok_thing_put (tx : Tx K mg T) : FnOk P w K mg base (L2.CX P w) 3 tx.a_thing_put tx.d_thing_put ["things", "place", "name"] (spP K T 3 f_thing_put) :=
    fn_pure tx.F_thing_put sc_thing_put (by decide) fun cdv A outer s H E hr tk hp =>
      (xb_cons (xs_if (xt_not (xt_chain op_le p_le op_le p_le xe_int (xe_name 1) (xe_op op_addA p_add (xe_callB call_len p_len tx.z_len (by decide +kernel) (xa_cons (xe_name 0) xa_nil)) xe_int))) (xb_one (xs_raise1 (t := 4) rfl tk tx.E_NoPlace (in_NoPlace tx) (hr.mono (by decide)) (bI_NoPlace tx) rfl (xa_cons (xe_name 1) xa_nil))) xb_nil)
      (xb_cons (xs_if (xt_cmp op_inA p_in (xe_name 2) (xe_name 0)) (xb_one (xs_raise1 (t := 9) rfl tk tx.E_Known (in_Known tx) (hr.mono (by decide)) (bI_Known tx) rfl (xa_cons (xe_name 2) xa_nil))) xb_nil)
      (xb_one (xs_ret (xe_tup (xa_star (xe_sl (xe_name 0) xo_none (xo_some (xe_op op_sub p_sub (xe_name 1) xe_int))) (xa_cons (xe_name 2) (xa_star (xe_sl (xe_name 0) (xo_some (xe_op op_sub p_sub (xe_name 1) xe_int)) xo_none) xa_nil))))))))
/-! #### thing_left_out -/
theorem sc_thing_left_out : FnScope ["things", "name", "own"] ["things", "name"] (defScope s_thing_left_out) := ⟨rfl, rfl, rfl, by decide +kernel, rfl, by decide +kernel, by decide +kernel⟩
theorem b_thing_left_out (tx : Tx K mg T) : Binds K tx.d_thing_left_out ["things", "name"] [] := tx.F_thing_left_out.binds fun _ _ _ _ _ _ us hl => match us, hl with | [_, _], _ => rfl
theorem kw_thing_left_out (tx : Tx K mg T) : KwB K tx.d_thing_left_out ["things", "name"] := kwB_of tx.F_thing_left_out fun _ _ _ _ _ _ us hl => match us, hl with | [_, _], _ => rfl
def m_thing_left_out_t1 : Rho → R Bool := (valT (op2E neD (nameE 2) (nameE 1)))
def m_thing_left_out_e1 : Rho → R VD := (nameE 2)
def m_thing_left_out_c1 : Rho → R (List D) := (compF [2] (seqI (nameE 0)) (nameG 2) m_thing_left_out_t1 m_thing_left_out_e1)
def m_thing_left_out : Rho → O := (seqS (ifS (valT (op2E ninD (nameE 1) (nameE 0))) (raiseS 3 (consA (nameE 1) nilA)) nextS)
  (retS (opNE tupleTD (consA (frzE m_thing_left_out_c1) nilA))))
def f_thing_left_out : List D → Res := runF 2 3 m_thing_left_out
theorem ok_thing_left_out (tx : Tx K mg T) : FnOk P w K mg base (L2.CX P w) 3 tx.a_thing_left_out tx.d_thing_left_out ["things", "name"] (spP K T 2 f_thing_left_out) :=
    fn_pure tx.F_thing_left_out sc_thing_left_out (by decide) fun cdv A outer s H E hr tk hp =>
      (xb_cons (xs_if (xt_cmp op_ninA p_nin (xe_name 1) (xe_name 0)) (xb_one (xs_raise1 (t := 3) rfl tk tx.E_NoThing (in_NoThing tx) (hr.mono (by decide)) (bI_NoThing tx) rfl (xa_cons (xe_name 1) xa_nil))) xb_nil)
      (xb_one (xs_ret (xe_callTy (call_tupleA rfl) p_tupleT tx.z_tuple (by decide +kernel) (xa_cons (XF.xe (xf_lc rfl sc_thing_left_out.nd (xi_seq (xe_name 0)) (blkOk_by (own := [("own", 2)]) (by kernel_rfl)) (fun _ _ _ _ _ => (xgo_name 2 sc_thing_left_out.nd)) (fun _ _ _ _ _ => (xts_one (xt_cmp (op_neA hr.units) p_ne (xe_name 2) (xe_name 1)))) (fun _ _ _ _ _ => (xe_name 2)))) xa_nil)))))
/-! #### share_change -/
theorem sc_share_change : FnScope ["before", "after", "lost", "thing"] ["before", "after"] (defScope s_share_change) := ⟨rfl, rfl, rfl, by decide +kernel, rfl, by decide +kernel, by decide +kernel⟩
theorem b_share_change (tx : Tx K mg T) : Binds K tx.d_share_change ["before", "after"] [] := tx.F_share_change.binds fun _ _ _ _ _ _ us hl => match us, hl with | [_, _], _ => rfl
theorem kw_share_change (tx : Tx K mg T) : KwB K tx.d_share_change ["before", "after"] := kwB_of tx.F_share_change fun _ _ _ _ _ _ us hl => match us, hl with | [_, _], _ => rfl
def m_share_change_t1 : Rho → R Bool := (valT (op2E ninD (nameE 3) (nameE 1)))
def m_share_change_e1 : Rho → R VD := (nameE 3)
def m_share_change_c1 : Rho → R (List D) := (compF [3] (seqI (nameE 0)) (nameG 3) m_share_change_t1 m_share_change_e1)
def m_share_change_t2 : Rho → R Bool := (valT (op2E ninD (nameE 3) (nameE 0)))
def m_share_change_e2 : Rho → R VD := (nameE 3)
def m_share_change_c2 : Rho → R (List D) := (compF [3] (seqI (nameE 1)) (nameG 3) m_share_change_t2 m_share_change_e2)
def m_share_change : Rho → O := (seqS (asgS 2 (callE f_set_of (consA (frzE m_share_change_c1) nilA)))
  (retS (tupE (consA (nameE 2) (consA (callE f_set_of (consA (frzE m_share_change_c2) nilA)) nilA)))))
def f_share_change : List D → Res := runF 2 4 m_share_change
theorem ok_share_change (tx : Tx K mg T) : FnOk P w K mg base (L2.CX P w) 2 tx.a_share_change tx.d_share_change ["before", "after"] (spP K T 2 f_share_change) :=
    fn_pure tx.F_share_change sc_share_change (by decide) fun cdv A outer s H E hr tk hp =>
      (xb_cons (xs_set 2 sc_share_change.nd (xe_call (ok_set_of tx) (hr.mono (by decide)) tx.g_set_of tx.F_set_of.kp (b_set_of tx) tk runF_len (xa_cons (XF.xe (xf_lc rfl sc_share_change.nd (xi_seq (xe_name 0)) (blkOk_by (own := [("thing", 3)]) (by kernel_rfl)) (fun _ _ _ _ _ => (xgo_name 3 sc_share_change.nd)) (fun _ _ _ _ _ => (xts_one (xt_cmp op_ninA p_nin (xe_name 3) (xe_name 1)))) (fun _ _ _ _ _ => (xe_name 3)))) xa_nil)))
      (xb_one (xs_ret (xe_tup (xa_cons (xe_name 2) (xa_cons (xe_call (ok_set_of tx) (hr.mono (by decide)) tx.g_set_of tx.F_set_of.kp (b_set_of tx) tk runF_len (xa_cons (XF.xe (xf_lc rfl sc_share_change.nd (xi_seq (xe_name 1)) (blkOk_by (own := [("thing", 3)]) (by kernel_rfl)) (fun _ _ _ _ _ => (xgo_name 3 sc_share_change.nd)) (fun _ _ _ _ _ => (xts_one (xt_cmp op_ninA p_nin (xe_name 3) (xe_name 0)))) (fun _ _ _ _ _ => (xe_name 3)))) xa_nil)) xa_nil))))))
/-! #### _law_box -/
theorem sc_law_box : FnScope ["_law_script", "_law_k", "_law_cell"] ["_law_script", "_law_k"] (defScope s_law_box) := ⟨rfl, rfl, rfl, by decide +kernel, rfl, by decide +kernel, by decide +kernel⟩
theorem b_law_box (tx : Tx K mg T) : Binds K tx.d_law_box ["_law_script", "_law_k"] [] := tx.F_law_box.binds fun _ _ _ _ _ _ us hl => match us, hl with | [_, _], _ => rfl
def m_law_box : Rho → O := (seqS (asgS 2 (ifE (valT (op2E ltD (nameE 1) (opNE lenD (consA (nameE 0) nilA)))) (op2E atD (nameE 0) (nameE 1)) (constE (.int 0))))
  (retF (lstF (consA (op2E mulD (opNE absD (consA (nameE 2) nilA)) (opNE intD (consA (op2E geD (opNE absD (consA (nameE 2) nilA)) (op2E powD (constE (.int 10)) (constE (.int 18)))) nilA))) (consA (op2E addD (op2E addD (op2E modD (opNE intD (consA (nameE 2) nilA)) (constE (.int 2305843009213693951))) (op2E mulD (constE (.int 39373)) (nameE 1))) (constE (.int 83037))) (consA (constE (.int 0)) nilA))))))
def f_law_box : List D → Option (List D) := runL 2 3 m_law_box
theorem ok_law_box (tx : Tx K mg T) : FnOk P w K mg base (L2.CX P w) 1 tx.a_law_box tx.d_law_box ["_law_script", "_law_k"] (spL K T 2 f_law_box) :=
    fn_new tx.F_law_box sc_law_box fun cdv A outer s H E hr hp =>
      (xb_cons (xs_set 2 sc_law_box.nd (xe_if (xt_cmp op_ltA p_lt (xe_name 1) (xe_callB call_len p_len tx.z_len (by decide +kernel) (xa_cons (xe_name 0) xa_nil))) (xe_ix ix_seq p_ix (xe_name 0) (xe_name 1)) xe_int))
      (xb_one (xs_retF (xf_lst (xa_cons (xe_op op_mulA p_mul (xe_callB call_abs p_abs tx.z_abs (by decide +kernel) (xa_cons (xe_name 2) xa_nil)) (xe_callTy call_intA p_int tx.z_int (by decide +kernel) (xa_cons (xe_cmp op_ge p_ge (xe_callB call_abs p_abs tx.z_abs (by decide +kernel) (xa_cons (xe_name 2) xa_nil)) (xe_op op_pow p_pow xe_int xe_int)) xa_nil))) (xa_cons (xe_op op_addA p_add (xe_op op_addA p_add (xe_op op_mod p_mod (xe_callTy call_intA p_int tx.z_int (by decide +kernel) (xa_cons (xe_name 2) xa_nil)) xe_int) (xe_op op_mulA p_mul xe_int (xe_name 1))) xe_int) (xa_cons xe_int xa_nil)))))))
/-! #### _law_take -/
theorem sc_law_take : FnScope ["_law_box_here", "_law_size_so", "_law_drawn_so", "_law_once", "_law_far", "_law_again"] ["_law_box_here", "_law_size_so"] (defScope s_law_take) := ⟨rfl, rfl, rfl, by decide +kernel, rfl, by decide +kernel, by decide +kernel⟩
theorem b_law_take (tx : Tx K mg T) : Binds K tx.d_law_take ["_law_box_here", "_law_size_so"] [] := tx.F_law_take.binds fun _ _ _ _ _ _ us hl => match us, hl with | [_, _], _ => rfl
def m_law_take : Rho → O := (seqS (ifS (valT (op2E gtD (op2E atD (nameE 0) (constE (.int 0))) (constE (.int 0)))) (seqS (asgS 2 (op2E modD (opNE intD (consA (op2E atD (nameE 0) (constE (.int 0))) nilA)) (nameE 1)))
  (seqS (putItem 0 (op2E fdivD (op2E atD (nameE 0) (constE (.int 0))) (nameE 1)) (constE (.int 0)))
  (retS (nameE 2)))) nextS)
  (seqS (putItem 0 (op2E addD (op2E atD (nameE 0) (constE (.int 2))) (constE (.int 1))) (constE (.int 2)))
  (seqS (asgS 3 (op2E modD (opNE intD (consA (op2E mulD (op2E addD (op2E atD (nameE 0) (constE (.int 1))) (op2E mulD (constE (.int 48271)) (op2E atD (nameE 0) (constE (.int 2))))) (op2E addD (constE (.int 39373)) (op2E atD (nameE 0) (constE (.int 2))))) nilA)) (constE (.int 2147483647))))
  (seqS (asgS 4 (op2E addD (op2E modD (opNE intD (consA (nameE 3) nilA)) (constE (.int 40009))) (constE (.int 7))))
  (seqS (asgS 5 (op2E modD (opNE intD (consA (op2E mulD (op2E addD (op2E addD (nameE 3) (op2E atD (nameE 0) (constE (.int 2)))) (op2E fdivD (op2E atD (nameE 0) (constE (.int 1))) (constE (.int 1000003)))) (nameE 4)) nilA)) (constE (.int 2147483629))))
  (retS (op2E modD (opNE intD (consA (op2E fdivD (op2E modD (opNE intD (consA (op2E addD (op2E mulD (nameE 5) (constE (.int 48271))) (nameE 3)) nilA)) (constE (.int 2147483587))) (constE (.int 64))) nilA)) (nameE 1))))))))
def f_law_take : List Int → List D → Option (D × List Int) := runB 1 5 m_law_take
theorem ok_law_take (tx : Tx K mg T) : FnOk P w K mg base (L2.CX P w) 1 tx.a_law_take tx.d_law_take ["_law_box_here", "_law_size_so"] (spB K T 1 f_law_take) :=
    fn_box tx.F_law_take sc_law_take (by decide) rfl rfl fun cdv A outer s H E hr hp =>
      (xb_cons (xs_if (xt_cmp op_gt p_gt (xe_ix ix_seq p_ix (xe_name 0) xe_int) xe_int) (xb_cons (xs_set 2 sc_law_take.nd (xe_op op_mod p_mod (xe_callTy call_intA p_int tx.z_int (by decide +kernel) (xa_cons (xe_ix ix_seq p_ix (xe_name 0) xe_int) xa_nil)) (xe_name 1)))
      (xb_cons (xs_item 0 (xe_op op_fdiv p_fdiv (xe_ix ix_seq p_ix (xe_name 0) xe_int) (xe_name 1)) xe_int)
      (xb_one (xs_ret (xe_name 2))))) xb_nil)
      (xb_cons (xs_item 0 (xe_op op_addA p_add (xe_ix ix_seq p_ix (xe_name 0) xe_int) xe_int) xe_int)
      (xb_cons (xs_set 3 sc_law_take.nd (xe_op op_mod p_mod (xe_callTy call_intA p_int tx.z_int (by decide +kernel) (xa_cons (xe_op op_mulA p_mul (xe_op op_addA p_add (xe_ix ix_seq p_ix (xe_name 0) xe_int) (xe_op op_mulA p_mul xe_int (xe_ix ix_seq p_ix (xe_name 0) xe_int))) (xe_op op_addA p_add xe_int (xe_ix ix_seq p_ix (xe_name 0) xe_int))) xa_nil)) xe_int))
      (xb_cons (xs_set 4 sc_law_take.nd (xe_op op_addA p_add (xe_op op_mod p_mod (xe_callTy call_intA p_int tx.z_int (by decide +kernel) (xa_cons (xe_name 3) xa_nil)) xe_int) xe_int))
      (xb_cons (xs_set 5 sc_law_take.nd (xe_op op_mod p_mod (xe_callTy call_intA p_int tx.z_int (by decide +kernel) (xa_cons (xe_op op_mulA p_mul (xe_op op_addA p_add (xe_op op_addA p_add (xe_name 3) (xe_ix ix_seq p_ix (xe_name 0) xe_int)) (xe_op op_fdiv p_fdiv (xe_ix ix_seq p_ix (xe_name 0) xe_int) xe_int)) (xe_name 4)) xa_nil)) xe_int))
      (xb_one (xs_ret (xe_op op_mod p_mod (xe_callTy call_intA p_int tx.z_int (by decide +kernel) (xa_cons (xe_op op_fdiv p_fdiv (xe_op op_mod p_mod (xe_callTy call_intA p_int tx.z_int (by decide +kernel) (xa_cons (xe_op op_addA p_add (xe_op op_mulA p_mul (xe_name 5) xe_int) (xe_name 3)) xa_nil)) xe_int) xe_int) xa_nil)) (xe_name 1)))))))))
/-! #### _law_cells -/
theorem sc_law_cells : FnScope ["_law_script", "_law_top_so", "_law_cells_so", "_law_k", "_law_cell", "_law_at_so"] ["_law_script", "_law_top_so"] (defScope s_law_cells) := ⟨rfl, rfl, rfl, by decide +kernel, rfl, by decide +kernel, by decide +kernel⟩
theorem b_law_cells (tx : Tx K mg T) : Binds K tx.d_law_cells ["_law_script", "_law_top_so"] [] := tx.F_law_cells.binds fun _ _ _ _ _ _ us hl => match us, hl with | [_, _], _ => rfl
theorem kw_law_cells (tx : Tx K mg T) : KwB K tx.d_law_cells ["_law_script", "_law_top_so"] := kwB_of tx.F_law_cells fun _ _ _ _ _ _ us hl => match us, hl with | [_, _], _ => rfl
def m_law_cells_g1 : D → Rho → Option Rho := (tupG 2 (consG (nameG 3) (consG (nameG 4) nilG)))
def m_law_cells_b1 : Rho → O := (seqS (asgS 5 (op2E modD (opNE intD (consA (nameE 3) nilA)) (nameE 1)))
  (putItem 2 (op2E addD (op2E atD (nameE 2) (nameE 5)) (op2E mulD (nameE 4) (op2E addD (nameE 3) (constE (.int 2))))) (nameE 5)))
def m_law_cells_l1 : Rho → O := (forS (enumA (consA (slE (nameE 0) (aPart (nameE 1)) (aPart (constE (.int 63)))) nilA)) m_law_cells_g1 m_law_cells_b1)
def m_law_cells : Rho → O := (seqS (asgM 2 (orF (opNF listF (consA (slE (nameE 0) noPart (aPart (nameE 1))) nilA)) (lstF (consA (constE (.int 0)) nilA))))
  (seqS m_law_cells_l1
  (retS (nameE 2))))
def f_law_cells : List D → Res := runF 2 6 m_law_cells
theorem ok_law_cells (tx : Tx K mg T) : FnOk P w K mg base (L2.CX P w) 1 tx.a_law_cells tx.d_law_cells ["_law_script", "_law_top_so"] (spP K T 2 f_law_cells) :=
    fn_pure tx.F_law_cells sc_law_cells (by decide) fun cdv A outer s H E hr tk hp =>
      (xb_cons (xs_setM 2 sc_law_cells.nd (xf_or (xf_callTy call_list_of p_list tx.z_list (by decide +kernel) (xa_cons (xe_sl (xe_name 0) xo_none (xo_some (xe_name 1))) xa_nil)) (xf_lst (xa_cons xe_int xa_nil))))
      (xb_cons (xs_for hp rfl (xi_enumA tx.z_enumerate (xa_cons (xe_sl (xe_name 0) (xo_some (xe_name 1)) (xo_some xe_int)) xa_nil)) (xg_tup rfl (xgs_cons (xg_name 3 sc_law_cells.nd) (xgs_cons (xg_name 4 sc_law_cells.nd) xgs_nil))) (xb_cons (xs_set 5 sc_law_cells.nd (xe_op op_mod p_mod (xe_callTy call_intA p_int tx.z_int (by decide +kernel) (xa_cons (xe_name 3) xa_nil)) (xe_name 1)))
      (xb_one (xs_item 2 (xe_op op_addA p_add (xe_ix ix_seq p_ix (xe_name 2) (xe_name 5)) (xe_op op_mulA p_mul (xe_name 4) (xe_op op_addA p_add (xe_name 3) xe_int))) (xe_name 5)))))
      (xb_one (xs_ret (xe_name 2)))))
/-! #### _law_of -/
theorem sc_law_of : FnScope ["_law_box_here", "_law_goods_so"] ["_law_box_here", "_law_goods_so"] (defScope s_law_of) := ⟨rfl, rfl, rfl, by decide +kernel, rfl, by decide +kernel, by decide +kernel⟩
theorem b_law_of (tx : Tx K mg T) : Binds K tx.d_law_of ["_law_box_here", "_law_goods_so"] [] := tx.F_law_of.binds fun _ _ _ _ _ _ us hl => match us, hl with | [_, _], _ => rfl
def m_law_of : Rho → O := (retS (op2E atD (nameE 1) (callBE f_law_take (consA (nameE 0) (consA (opNE lenD (consA (nameE 1) nilA)) nilA)))))
def f_law_of : List Int → List D → Option (D × List Int) := runB 1 1 m_law_of
theorem ok_law_of (tx : Tx K mg T) : FnOk P w K mg base (L2.CX P w) 2 tx.a_law_of tx.d_law_of ["_law_box_here", "_law_goods_so"] (spB K T 1 f_law_of) :=
    fn_box tx.F_law_of sc_law_of (by decide) rfl rfl fun cdv A outer s H E hr hp =>
      (xb_one (xs_ret (xe_ix ix_seq p_ix (xe_name 1) (xe_callBx (ok_law_take tx) (hr.mono (by decide)) tx.g_law_take tx.F_law_take.kp (b_law_take tx) takes0 runB_len (xa_cons (xe_name 0) (xa_cons (xe_callB call_len p_len tx.z_len (by decide +kernel) (xa_cons (xe_name 1) xa_nil)) xa_nil))))))
/-! #### _law_same -/
theorem sc_law_same : FnScope ["_law_got", "_law_due_here", "_law_alike_so", "_law_mine", "_law_its"] ["_law_got", "_law_due_here"] (defScope s_law_same) := ⟨rfl, rfl, rfl, by decide +kernel, rfl, by decide +kernel, by decide +kernel⟩
theorem b_law_same (tx : Tx K mg T) : Binds K tx.d_law_same ["_law_got", "_law_due_here"] [] := tx.F_law_same.binds fun _ _ _ _ _ _ us hl => match us, hl with | [_, _], _ => rfl
def m_law_same_e1 (self : List D → Res) : Rho → R VD := (callE self (consA (nameE 3) (consA (nameE 4) nilA)))
def m_law_same_c1 (self : List D → Res) : Rho → R (List D) := (compF [3, 4] (zipI (consA (nameE 0) (consA (nameE 1) nilA))) (tupG 2 (consG (nameG 3) (consG (nameG 4) nilG))) yesT (m_law_same_e1 self))
def m_law_same (self : List D → Res) : Rho → O := (seqS (ifS (valT (isiE ["list", "tuple"] (nameE 1))) (seqS (ifS (valT (op2E neD (isiE ["list"] (nameE 0)) (isiE ["list"] (nameE 1)))) (retS (constE (.bl false))) nextS)
  (seqS (ifS (valT (op2E neD (isiE ["tuple"] (nameE 0)) (isiE ["tuple"] (nameE 1)))) (retS (constE (.bl false))) nextS)
  (retS (andE (op2E eqD (opNE lenD (consA (nameE 0) nilA)) (opNE lenD (consA (nameE 1) nilA))) (opNE allD (consA (frzE (m_law_same_c1 self)) nilA)))))) nextS)
  (seqS (ifS (orT (valT (op2E isD (nameE 1) (constE .non))) (valT (isiE ["bool", "str"] (nameE 1)))) (seqS (asgS 2 (andE (op2E eqD (isiE ["bool"] (nameE 0)) (isiE ["bool"] (nameE 1))) (op2E eqD (op2E isD (nameE 0) (constE .non)) (op2E isD (nameE 1) (constE .non)))))
  (retS (andE (nameE 2) (op2E eqD (nameE 0) (nameE 1))))) nextS)
  (retS (andE (isiE ["int"] (nameE 0)) (andE (notE (isiE ["bool"] (nameE 0))) (op2E eqD (nameE 0) (nameE 1)))))))
def f_law_same : Nat → List D → Res
  | 0 => fun _ => .bad
  | n + 1 => runF 2 5 (m_law_same (f_law_same n))
theorem f_law_same_len : ∀ (n : Nat) (ds : List D), f_law_same n ds ≠ .bad → ds.length = 2
  | 0, _, h => (h rfl).elim
  | n + 1, ds, h => runF_len ds h
theorem ok_law_same (tx : Tx K mg T) : ∀ n : Nat, FnOk P w K mg base (L2.CX P w) (n + 1) tx.a_law_same tx.d_law_same ["_law_got", "_law_due_here"] (spP K T 2 (f_law_same n))
  | 0 => fn_bad tx.F_law_same sc_law_same
  | n + 1 => have ih := ok_law_same tx n
    fn_pure (k := n + 1) tx.F_law_same sc_law_same (by decide) fun cdv A outer s H E hr tk hp =>
      (xb_cons (xs_if (xt_val (xe_isi2 (t := "list") (t' := "tuple") tx.z_isinstance (by decide +kernel) tx.z_list (by decide +kernel) tx.z_tuple (by decide +kernel) (xe_name 1) (by decide) (by decide))) (xb_cons (xs_if (xt_cmp (op_neA hr.units) p_ne (xe_isi1 (t := "list") tx.z_isinstance (by decide +kernel) tx.z_list (by decide +kernel) (xe_name 0) (by decide)) (xe_isi1 (t := "list") tx.z_isinstance (by decide +kernel) tx.z_list (by decide +kernel) (xe_name 1) (by decide))) (xb_one (xs_ret xe_bl)) xb_nil)
      (xb_cons (xs_if (xt_cmp (op_neA hr.units) p_ne (xe_isi1 (t := "tuple") tx.z_isinstance (by decide +kernel) tx.z_tuple (by decide +kernel) (xe_name 0) (by decide)) (xe_isi1 (t := "tuple") tx.z_isinstance (by decide +kernel) tx.z_tuple (by decide +kernel) (xe_name 1) (by decide))) (xb_one (xs_ret xe_bl)) xb_nil)
      (xb_one (xs_ret (xe_and (xe_cmp (op_eqA hr.units) p_eq (xe_callB call_len p_len tx.z_len (by decide +kernel) (xa_cons (xe_name 0) xa_nil)) (xe_callB call_len p_len tx.z_len (by decide +kernel) (xa_cons (xe_name 1) xa_nil))) (xe_one (xe_callB (cr_all rfl) p_all tx.z_all (by decide +kernel) (xa_cons (XF.xe (xf_lc rfl sc_law_same.nd (xi_zip tx.z_zip (xa_cons (xe_name 0) (xa_cons (xe_name 1) xa_nil))) (blkOk_by (own := [("_law_mine", 3), ("_law_its", 4)]) (by kernel_rfl)) (fun _ _ _ _ _ => (xgo_tup rfl (xgos_cons (xgo_name 3 sc_law_same.nd) (xgos_cons (xgo_name 4 sc_law_same.nd) xgos_nil)))) (fun _ _ _ _ _ => xts_nil) (fun _ _ _ _ _ => (xe_call ih (hr.mono (by omega)) tx.g_law_same tx.F_law_same.kp (b_law_same tx) takes0 (f_law_same_len n) (xa_cons (xe_name 3) (xa_cons (xe_name 4) xa_nil)))))) xa_nil)))))))) xb_nil)
      (xb_cons (xs_if (XW.xt (xw_or (xt_cmp op_isN p_is (xe_name 1) xe_non) (xw_or1 (xt_val (xe_isi2 (t := "bool") (t' := "str") tx.z_isinstance (by decide +kernel) tx.z_bool (by decide +kernel) tx.z_str (by decide +kernel) (xe_name 1) (by decide) (by decide)))))) (xb_cons (xs_set 2 sc_law_same.nd (xe_and (xe_cmp (op_eqA hr.units) p_eq (xe_isi1 (t := "bool") tx.z_isinstance (by decide +kernel) tx.z_bool (by decide +kernel) (xe_name 0) (by decide)) (xe_isi1 (t := "bool") tx.z_isinstance (by decide +kernel) tx.z_bool (by decide +kernel) (xe_name 1) (by decide))) (xe_one (xe_cmp (op_eqA hr.units) p_eq (xe_cmp op_isN p_is (xe_name 0) xe_non) (xe_cmp op_isN p_is (xe_name 1) xe_non)))))
      (xb_one (xs_ret (xe_and (xe_name 2) (xe_one (xe_cmp (op_eqA hr.units) p_eq (xe_name 0) (xe_name 1))))))) xb_nil)
      (xb_one (xs_ret (xe_and (xe_isi1 (t := "int") tx.z_isinstance (by decide +kernel) tx.z_int (by decide +kernel) (xe_name 0) (by decide)) (xe_and (xe_not (xe_isi1 (t := "bool") tx.z_isinstance (by decide +kernel) tx.z_bool (by decide +kernel) (xe_name 0) (by decide))) (xe_one (xe_cmp (op_eqA hr.units) p_eq (xe_name 0) (xe_name 1)))))))))
/-! #### _law_pick -/
theorem sc_law_pick : FnScope ["_law_box_here", "_law_goods_so", "_law_count_so", "_law_pool_so", "_law_found", "_law_turn"] ["_law_box_here", "_law_goods_so", "_law_count_so"] (defScope s_law_pick) := ⟨rfl, rfl, rfl, by decide +kernel, rfl, by decide +kernel, by decide +kernel⟩
theorem b_law_pick (tx : Tx K mg T) : Binds K tx.d_law_pick ["_law_box_here", "_law_goods_so", "_law_count_so"] [] := tx.F_law_pick.binds fun _ _ _ _ _ _ us hl => match us, hl with | [_, _, _], _ => rfl
def m_law_pick_b1 : Rho → O := (dropS (appE 4 (consA (popE 3 (consA (callBE f_law_take (consA (nameE 0) (consA (opNE lenD (consA (nameE 3) nilA)) nilA))) nilA)) nilA)))
def m_law_pick_l1 : Rho → O := (forS (rngI1 (consA (opNE min2D (consA (opNE intD (consA (nameE 2) nilA)) (consA (opNE lenD (consA (nameE 3) nilA)) nilA))) nilA)) (nameG 5) m_law_pick_b1)
def m_law_pick : Rho → O := (seqS (parS [3, 4] (consMf' (opNF listF (consA (nameE 1) nilA)) (consMf' (lstF nilA) nilM)))
  (seqS m_law_pick_l1
  (retS (nameE 4))))
def f_law_pick : List Int → List D → Option (D × List Int) := runB 2 5 m_law_pick
theorem ok_law_pick (tx : Tx K mg T) : FnOk P w K mg base (L2.CX P w) 2 tx.a_law_pick tx.d_law_pick ["_law_box_here", "_law_goods_so", "_law_count_so"] (spB K T 2 f_law_pick) :=
    fn_box tx.F_law_pick sc_law_pick (by decide) rfl rfl fun cdv A outer s H E hr hp =>
      (xb_cons (by first | exact (xs_par2 3 4 rfl sc_law_pick.nd (xm_f (xf_callTy call_list_of p_list tx.z_list (by decide +kernel) (xa_cons (xe_name 1) xa_nil)) (xm_f (xf_lst xa_nil) xm_nil))) | exact (xs_parN (is := [3, 4]) rfl (by decide) rfl (by decide) (xm_f (xf_callTy call_list_of p_list tx.z_list (by decide +kernel) (xa_cons (xe_name 1) xa_nil)) (xm_f (xf_lst xa_nil) xm_nil)) (pgs_names (pgs_cons (pg_name (i := 3) sc_law_pick.nd rfl (by first | exact Or.inl rfl | exact Or.inr rfl)) (pgs_cons (pg_name (i := 4) sc_law_pick.nd rfl (by first | exact Or.inl rfl | exact Or.inr rfl)) pgs_nil)) (gn_cons (i := 3) (gn_cons (i := 4) gn_nil)))))
      (xb_cons (xs_for hp rfl (xi_range1 tx.z_range (xa_cons (xe_callB (call_min2 rfl) p_min2 tx.z_min (by decide +kernel) (xa_cons (xe_callTy call_intA p_int tx.z_int (by decide +kernel) (xa_cons (xe_name 2) xa_nil)) (xa_cons (xe_callB call_len p_len tx.z_len (by decide +kernel) (xa_cons (xe_name 3) xa_nil)) xa_nil))) xa_nil)) (xg_name 5 sc_law_pick.nd) (xb_one (xs_expr (xe_append 4 (xa_cons (xe_pop 3 (xa_cons (xe_callBx (ok_law_take tx) (hr.mono (by decide)) tx.g_law_take tx.F_law_take.kp (b_law_take tx) takes0 runB_len (xa_cons (xe_name 0) (xa_cons (xe_callB call_len p_len tx.z_len (by decide +kernel) (xa_cons (xe_name 3) xa_nil)) xa_nil))) xa_nil)) xa_nil)))))
      (xb_one (xs_ret (xe_name 4)))))
/-! #### _law_likes -/
theorem sc_law_likes : FnScope ["_law_box_here", "_law_many_so", "_law_some"] ["_law_box_here", "_law_many_so"] (defScope s_law_likes) := ⟨rfl, rfl, rfl, by decide +kernel, rfl, by decide +kernel, by decide +kernel⟩
theorem b_law_likes (tx : Tx K mg T) : Binds K tx.d_law_likes ["_law_box_here", "_law_many_so"] [] := tx.F_law_likes.binds fun _ _ _ _ _ _ us hl => match us, hl with | [_, _], _ => rfl
def m_law_likes : Rho → O := (seqS (asgS 2 (frzE (lstF (consA (constE (.str "x")) (consA (constE (.str "y")) (consA (constE (.str "z")) (consA (constE (.str "w")) (consA (constE (.str "v")) (consA (constE (.str "u")) (consA (constE (.str "t")) (consA (constE (.str "s")) (consA (constE (.str "a")) (consA (constE (.str "b")) (consA (constE (.str "ab")) (consA (constE (.str "zzzzzzzz")) nilA)))))))))))))))
  (retS (opNE tupleTD (consA (callBE f_law_pick (consA (nameE 0) (consA (slE (nameE 2) noPart (aPart (nameE 1))) (consA (nameE 1) nilA)))) nilA))))
def f_law_likes : List Int → List D → Option (D × List Int) := runB 1 2 m_law_likes
theorem ok_law_likes (tx : Tx K mg T) : FnOk P w K mg base (L2.CX P w) 3 tx.a_law_likes tx.d_law_likes ["_law_box_here", "_law_many_so"] (spB K T 1 f_law_likes) :=
    fn_box tx.F_law_likes sc_law_likes (by decide) rfl rfl fun cdv A outer s H E hr hp =>
      (xb_cons (xs_set 2 sc_law_likes.nd (XF.xe (xf_lst (xa_cons xe_str (xa_cons xe_str (xa_cons xe_str (xa_cons xe_str (xa_cons xe_str (xa_cons xe_str (xa_cons xe_str (xa_cons xe_str (xa_cons xe_str (xa_cons xe_str (xa_cons xe_str (xa_cons xe_str xa_nil)))))))))))))))
      (xb_one (xs_ret (xe_callTy (call_tupleA rfl) p_tupleT tx.z_tuple (by decide +kernel) (xa_cons (xe_callBx (ok_law_pick tx) (hr.mono (by decide)) tx.g_law_pick tx.F_law_pick.kp (b_law_pick tx) takes0 runB_len (xa_cons (xe_name 0) (xa_cons (xe_sl (xe_name 2) xo_none (xo_some (xe_name 1))) (xa_cons (xe_name 1) xa_nil)))) xa_nil)))))
/-! #### _law_heard -/
theorem sc_law_heard : FnScope ["_law_door", "_law_likes_so", "_law_spot", "_law_own", "_law_got", "_law_caught", "error"] ["_law_door", "_law_likes_so", "_law_spot", "_law_own"] (defScope s_law_heard) := ⟨rfl, rfl, rfl, by decide +kernel, rfl, by decide +kernel, by decide +kernel⟩
theorem b_law_heard (tx : Tx K mg T) : Binds K tx.d_law_heard ["_law_door", "_law_likes_so", "_law_spot", "_law_own"] [] := tx.F_law_heard.binds fun _ _ _ _ _ _ us hl => match us, hl with | [_, _, _, _], _ => rfl
theorem kw_law_heard (tx : Tx K mg T) : KwB K tx.d_law_heard ["_law_door", "_law_likes_so", "_law_spot", "_law_own"] := kwB_of tx.F_law_heard fun _ _ _ _ _ _ us hl => match us, hl with | [_, _, _, _], _ => rfl
def m_law_heard : Rho → O := (seqS (parS [4, 5] (consMd (constE .non) (consMd (constE .non) nilM)))
  (seqS (tryS (ifS (valT (op2E eqD (nameE 0) (constE (.int 0)))) (asgS 4 (callE f_list_exchanged (consA (nameE 1) (consA (nameE 2) nilA)))) (asgS 4 (ifE (valT (op2E eqD (nameE 0) (constE (.int 1)))) (callE f_thing_put (consA (nameE 1) (consA (nameE 2) (consA (nameE 3) nilA)))) (callE f_thing_left_out (consA (nameE 1) (consA (nameE 3) nilA)))))) (hAs [(3, true), (4, true), (9, true)] 6 (asgS 5 (nameE 6)) hNil))
  (seqS (ifS (valT (op2E isD (nameE 5) (constE .non))) (retS (nameE 4)) nextS)
  (seqS (ifS (valT (op1E (isErrD [(3, false), (4, true), (9, false)]) (nameE 5))) (retS (frzE (lstF (consA (constE (.str "far")) (consA (op1E (fldD [4] "number") (nameE 5)) (consA (op1E (isErrD [(3, true), (4, true), (9, true)]) (nameE 5)) nilA)))))) nextS)
  (retS (frzE (lstF (consA (ifE (valT (op1E (isErrD [(3, false), (4, false), (9, true)]) (nameE 5))) (constE (.str "known")) (constE (.str "none"))) (consA (op1E (fldD [3, 9] "name") (nameE 5)) (consA (op1E (isErrD [(3, true), (4, true), (9, true)]) (nameE 5)) nilA))))))))))
def f_law_heard : List D → Res := runF 4 7 m_law_heard
theorem ok_law_heard (tx : Tx K mg T) : FnOk P w K mg base (L2.CX P w) 4 tx.a_law_heard tx.d_law_heard ["_law_door", "_law_likes_so", "_law_spot", "_law_own"] (spP K T 4 f_law_heard) :=
    fn_pure tx.F_law_heard sc_law_heard (by decide) fun cdv A outer s H E hr tk hp =>
      (xb_cons (by first | exact (xs_par2 4 5 rfl sc_law_heard.nd (xm_d xe_non (xm_d xe_non xm_nil))) | exact (xs_parN (is := [4, 5]) rfl (by decide) rfl (by decide) (xm_d xe_non (xm_d xe_non xm_nil)) (pgs_names (pgs_cons (pg_name (i := 4) sc_law_heard.nd rfl (by first | exact Or.inl rfl | exact Or.inr rfl)) (pgs_cons (pg_name (i := 5) sc_law_heard.nd rfl (by first | exact Or.inl rfl | exact Or.inr rfl)) pgs_nil)) (gn_cons (i := 4) (gn_cons (i := 5) gn_nil)))))
      (xb_cons (xs_try rfl rfl (fun W' pn xe tk hp => (xb_one (xs_if (xt_cmp (op_eqA hr.units) p_eq (xe_name 0) xe_int) (xb_one (xs_set 4 sc_law_heard.nd (xe_call (ok_list_exchanged tx) (hr.mono (by decide)) tx.g_list_exchanged tx.F_list_exchanged.kp (b_list_exchanged tx) tk runF_len (xa_cons (xe_name 1) (xa_cons (xe_name 2) xa_nil))))) (xb_one (xs_set 4 sc_law_heard.nd (xe_if (xt_cmp (op_eqA hr.units) p_eq (xe_name 0) xe_int) (xe_call (ok_thing_put tx) (hr.mono (by decide)) tx.g_thing_put tx.F_thing_put.kp (b_thing_put tx) tk runF_len (xa_cons (xe_name 1) (xa_cons (xe_name 2) (xa_cons (xe_name 3) xa_nil)))) (xe_call (ok_thing_left_out tx) (hr.mono (by decide)) tx.g_thing_left_out tx.F_thing_left_out.kp (b_thing_left_out tx) tk runF_len (xa_cons (xe_name 1) (xa_cons (xe_name 3) xa_nil))))))))) (xh_asT 6 rfl rfl rfl sc_law_heard.nd (tst_3 ⟨rfl, by decide, .inl tx.E_Known.gC⟩ ⟨rfl, by decide, .inl tx.E_NoPlace.gC⟩ ⟨rfl, by decide, .inl tx.E_NoThing.gC⟩) (hxT_Known_NoPlace_NoThing tx) (fun _ _ => (xb_one (xs_set 5 sc_law_heard.nd (xe_name 6)))) (xh_nil rfl rfl tk)))
      (xb_cons (xs_if (xt_cmp op_isN p_is (xe_name 5) xe_non) (xb_one (xs_ret (xe_name 4))) xb_nil)
      (xb_cons (xs_if (xt_val (xe_isErr (ex := [(3, false), (4, true), (9, false)]) tx.z_isinstance tx.E_NoPlace.gC (hi_NoPlace tx) (xe_name 5))) (xb_one (xs_ret (XF.xe (xf_lst (xa_cons xe_str (xa_cons (xe_efld (ts := [4]) (exf_cons tx.E_NoPlace.xf tx.E_NoPlace.noF exf_nil) (xe_name 5)) (xa_cons (xe_isErrB (ex := [(3, true), (4, true), (9, true)]) tx.z_isinstance tx.z_ValueError (by decide +kernel) (hi_ValueError tx) (xe_name 5)) xa_nil))))))) xb_nil)
      (xb_one (xs_ret (XF.xe (xf_lst (xa_cons (xe_if (xt_val (xe_isErr (ex := [(3, false), (4, false), (9, true)]) tx.z_isinstance tx.E_Known.gC (hi_Known tx) (xe_name 5))) xe_str xe_str) (xa_cons (xe_efld (ts := [3, 9]) (exf_cons tx.E_NoThing.xf tx.E_NoThing.noF (exf_cons tx.E_Known.xf tx.E_Known.noF exf_nil)) (xe_name 5)) (xa_cons (xe_isErrB (ex := [(3, true), (4, true), (9, true)]) tx.z_isinstance tx.z_ValueError (by decide +kernel) (hi_ValueError tx) (xe_name 5)) xa_nil)))))))))))
/-! #### _law_due -/
theorem sc_law_due : FnScope ["_law_door", "_law_likes_so", "_law_spot", "_law_own", "_law_some", "_law_far"] ["_law_door", "_law_likes_so", "_law_spot", "_law_own"] (defScope s_law_due) := ⟨rfl, rfl, rfl, by decide +kernel, rfl, by decide +kernel, by decide +kernel⟩
theorem b_law_due (tx : Tx K mg T) : Binds K tx.d_law_due ["_law_door", "_law_likes_so", "_law_spot", "_law_own"] [] := tx.F_law_due.binds fun _ _ _ _ _ _ us hl => match us, hl with | [_, _, _, _], _ => rfl
theorem kw_law_due (tx : Tx K mg T) : KwB K tx.d_law_due ["_law_door", "_law_likes_so", "_law_spot", "_law_own"] := kwB_of tx.F_law_due fun _ _ _ _ _ _ us hl => match us, hl with | [_, _, _, _], _ => rfl
def m_law_due_t1 : Rho → R Bool := (valT (op2E neD (nameE 5) (nameE 3)))
def m_law_due_e1 : Rho → R VD := (nameE 5)
def m_law_due_c1 : Rho → R (List D) := (compF [5] (seqI (nameE 4)) (nameG 5) m_law_due_t1 m_law_due_e1)
def m_law_due : Rho → O := (seqS (asgS 4 (frzE (opNF listF (consA (nameE 1) nilA))))
  (seqS (ifS (valT (op2E eqD (nameE 0) (constE (.int 0)))) (seqS (ifS (orT (valT (op2E ltD (nameE 2) (constE (.int 1)))) (valT (op2E geD (nameE 2) (opNE lenD (consA (nameE 4) nilA))))) (retS (frzE (lstF (consA (constE (.str "far")) (consA (nameE 2) (consA (constE (.bl true)) nilA)))))) nextS)
  (retS (opNE tupleTD (consA (op2E addD (op2E addD (slE (nameE 4) noPart (aPart (op2E subD (nameE 2) (constE (.int 1))))) (frzE (lstF (consA (op2E atD (nameE 4) (nameE 2)) (consA (op2E atD (nameE 4) (op2E subD (nameE 2) (constE (.int 1)))) nilA))))) (slE (nameE 4) (aPart (op2E addD (nameE 2) (constE (.int 1)))) noPart)) nilA)))) nextS)
  (seqS (ifS (valT (op2E eqD (nameE 0) (constE (.int 1)))) (seqS (ifS (orT (valT (op2E ltD (nameE 2) (constE (.int 1)))) (valT (op2E gtD (nameE 2) (op2E addD (opNE lenD (consA (nameE 4) nilA)) (constE (.int 1)))))) (retS (frzE (lstF (consA (constE (.str "far")) (consA (nameE 2) (consA (constE (.bl true)) nilA)))))) nextS)
  (seqS (ifS (valT (op2E inD (nameE 3) (nameE 4))) (retS (frzE (lstF (consA (constE (.str "known")) (consA (nameE 3) (consA (constE (.bl true)) nilA)))))) nextS)
  (retS (opNE tupleTD (consA (op2E addD (op2E addD (slE (nameE 4) noPart (aPart (op2E subD (nameE 2) (constE (.int 1))))) (frzE (lstF (consA (nameE 3) nilA)))) (slE (nameE 4) (aPart (op2E subD (nameE 2) (constE (.int 1)))) noPart)) nilA))))) nextS)
  (retS (ifE (valT (op2E inD (nameE 3) (nameE 4))) (opNE tupleTD (consA (frzE m_law_due_c1) nilA)) (frzE (lstF (consA (constE (.str "none")) (consA (nameE 3) (consA (constE (.bl true)) nilA))))))))))
def f_law_due : List D → Res := runF 4 6 m_law_due
theorem ok_law_due (tx : Tx K mg T) : FnOk P w K mg base (L2.CX P w) 1 tx.a_law_due tx.d_law_due ["_law_door", "_law_likes_so", "_law_spot", "_law_own"] (spP K T 4 f_law_due) :=
    fn_pure tx.F_law_due sc_law_due (by decide) fun cdv A outer s H E hr tk hp =>
      (xb_cons (xs_set 4 sc_law_due.nd (XF.xe (xf_callTy call_list_of p_list tx.z_list (by decide +kernel) (xa_cons (xe_name 1) xa_nil))))
      (xb_cons (xs_if (xt_cmp (op_eqA hr.units) p_eq (xe_name 0) xe_int) (xb_cons (xs_if (XW.xt (xw_or (xt_cmp op_ltA p_lt (xe_name 2) xe_int) (xw_or1 (xt_cmp op_ge p_ge (xe_name 2) (xe_callB call_len p_len tx.z_len (by decide +kernel) (xa_cons (xe_name 4) xa_nil)))))) (xb_one (xs_ret (XF.xe (xf_lst (xa_cons xe_str (xa_cons (xe_name 2) (xa_cons xe_bl xa_nil))))))) xb_nil)
      (xb_one (xs_ret (xe_callTy (call_tupleA rfl) p_tupleT tx.z_tuple (by decide +kernel) (xa_cons (xe_op op_addA p_add (xe_op op_addA p_add (xe_sl (xe_name 4) xo_none (xo_some (xe_op op_sub p_sub (xe_name 2) xe_int))) (XF.xe (xf_lst (xa_cons (xe_ix ix_seq p_ix (xe_name 4) (xe_name 2)) (xa_cons (xe_ix ix_seq p_ix (xe_name 4) (xe_op op_sub p_sub (xe_name 2) xe_int)) xa_nil))))) (xe_sl (xe_name 4) (xo_some (xe_op op_addA p_add (xe_name 2) xe_int)) xo_none)) xa_nil))))) xb_nil)
      (xb_cons (xs_if (xt_cmp (op_eqA hr.units) p_eq (xe_name 0) xe_int) (xb_cons (xs_if (XW.xt (xw_or (xt_cmp op_ltA p_lt (xe_name 2) xe_int) (xw_or1 (xt_cmp op_gt p_gt (xe_name 2) (xe_op op_addA p_add (xe_callB call_len p_len tx.z_len (by decide +kernel) (xa_cons (xe_name 4) xa_nil)) xe_int))))) (xb_one (xs_ret (XF.xe (xf_lst (xa_cons xe_str (xa_cons (xe_name 2) (xa_cons xe_bl xa_nil))))))) xb_nil)
      (xb_cons (xs_if (xt_cmp op_inA p_in (xe_name 3) (xe_name 4)) (xb_one (xs_ret (XF.xe (xf_lst (xa_cons xe_str (xa_cons (xe_name 3) (xa_cons xe_bl xa_nil))))))) xb_nil)
      (xb_one (xs_ret (xe_callTy (call_tupleA rfl) p_tupleT tx.z_tuple (by decide +kernel) (xa_cons (xe_op op_addA p_add (xe_op op_addA p_add (xe_sl (xe_name 4) xo_none (xo_some (xe_op op_sub p_sub (xe_name 2) xe_int))) (XF.xe (xf_lst (xa_cons (xe_name 3) xa_nil)))) (xe_sl (xe_name 4) (xo_some (xe_op op_sub p_sub (xe_name 2) xe_int)) xo_none)) xa_nil)))))) xb_nil)
      (xb_one (xs_ret (xe_if (xt_cmp op_inA p_in (xe_name 3) (xe_name 4)) (xe_callTy (call_tupleA rfl) p_tupleT tx.z_tuple (by decide +kernel) (xa_cons (XF.xe (xf_lc rfl sc_law_due.nd (xi_seq (xe_name 4)) (blkOk_by (own := [("_law_far", 5)]) (by kernel_rfl)) (fun _ _ _ _ _ => (xgo_name 5 sc_law_due.nd)) (fun _ _ _ _ _ => (xts_one (xt_cmp (op_neA hr.units) p_ne (xe_name 5) (xe_name 3)))) (fun _ _ _ _ _ => (xe_name 5)))) xa_nil)) (XF.xe (xf_lst (xa_cons xe_str (xa_cons (xe_name 3) (xa_cons xe_bl xa_nil)))))))))))
/-! #### _law_shares_right -/
theorem sc_law_shares_right : FnScope ["_law_got", "_law_due_here", "_law_wide"] [] (defScope s_law_shares_right) := ⟨rfl, rfl, rfl, by decide +kernel, rfl, by decide +kernel, by decide +kernel⟩
theorem b_law_shares_right (tx : Tx K mg T) : Binds K tx.d_law_shares_right [] [] := tx.F_law_shares_right.binds fun _ _ _ _ _ _ us hl => match us, hl with | [], _ => rfl
theorem kw_law_shares_right (tx : Tx K mg T) : KwB K tx.d_law_shares_right [] := kwB_of tx.F_law_shares_right fun _ _ _ _ _ _ us hl => match us, hl with | [], _ => rfl
def m_law_shares_right : Rho → O := (seqS (asgM 0 (lstF (consA (callE f_share_change (consA (tupE (consA (constE (.str "x")) (consA (constE (.str "z")) nilA))) (consA (tupE (consA (constE (.str "y")) (consA (constE (.str "z")) nilA))) nilA))) (consA (callE f_share_change (consA (tupE nilA) (consA (tupE nilA) nilA))) nilA))))
  (seqS (asgM 0 (op2F catF (nameE 0) (frzE (lstF (consA (callE f_share_change (consA (tupE (consA (constE (.str "a")) (consA (constE (.str "b")) nilA))) (consA (tupE (consA (constE (.str "a")) (consA (constE (.str "b")) nilA))) nilA))) nilA)))))
  (seqS (asgM 1 (lstF (consA (tupE (consA (tupE (consA (constE (.str "x")) nilA)) (consA (tupE (consA (constE (.str "y")) nilA)) nilA))) (consA (tupE (consA (tupE nilA) (consA (tupE nilA) nilA))) (consA (tupE (consA (tupE nilA) (consA (tupE nilA) nilA))) nilA)))))
  (seqS (asgM 0 (op2F catF (nameE 0) (frzE (lstF (consA (callE f_share_change (consA (tupE (consA (constE (.str "a")) (consA (constE (.str "b")) (consA (constE (.str "c")) nilA)))) (consA (tupE nilA) nilA))) (consA (callE f_share_change (consA (tupE nilA) (consA (tupE (consA (constE (.str "b")) (consA (constE (.str "c")) nilA))) nilA))) nilA))))))
  (seqS (asgM 0 (op2F catF (nameE 0) (frzE (lstF (consA (callE f_share_change (consA (frzE (lstF (consA (constE (.str "a")) (consA (constE (.str "d")) nilA)))) (consA (frzE (lstF (consA (constE (.str "b")) (consA (constE (.str "c")) nilA)))) nilA))) nilA)))))
  (seqS (asgM 1 (op2F catF (nameE 1) (frzE (lstF (consA (tupE (consA (tupE (consA (constE (.str "a")) (consA (constE (.str "b")) (consA (constE (.str "c")) nilA)))) (consA (tupE nilA) nilA))) (consA (tupE (consA (tupE nilA) (consA (tupE (consA (constE (.str "b")) (consA (constE (.str "c")) nilA))) nilA))) (consA (tupE (consA (tupE (consA (constE (.str "a")) (consA (constE (.str "d")) nilA))) (consA (tupE (consA (constE (.str "b")) (consA (constE (.str "c")) nilA))) nilA))) nilA)))))))
  (seqS (dropS (appE 0 (consA (callE f_share_change (permA 2 [1, 0] (consA (tupE (consA (constE (.str "a")) (consA (constE (.str "y")) (consA (constE (.str "z")) nilA)))) (consA (tupE (consA (constE (.str "b")) (consA (constE (.str "x")) (consA (constE (.str "z")) nilA)))) nilA)))) nilA)))
  (seqS (dropS (appE 1 (consA (tupE (consA (tupE (consA (constE (.str "b")) (consA (constE (.str "x")) nilA))) (consA (tupE (consA (constE (.str "a")) (consA (constE (.str "y")) nilA))) nilA))) nilA)))
  (seqS (asgS 2 (tupE (consA (constE (.str "a")) (consA (constE (.str "b")) (consA (constE (.str "c")) (consA (constE (.str "d")) (consA (constE (.str "e")) (consA (constE (.str "f")) (consA (constE (.str "g")) (consA (constE (.str "h")) (consA (constE (.str "i")) (consA (constE (.str "j")) (consA (constE (.str "k")) (consA (constE (.str "l")) nilA))))))))))))))
  (seqS (asgM 0 (op2F catF (nameE 0) (frzE (lstF (consA (callE f_share_change (consA (nameE 2) (consA (slE (nameE 2) (aPart (constE (.int 1))) noPart) nilA))) (consA (slE (callE f_list_exchanged (consA (nameE 2) (consA (constE (.int 11)) nilA))) (aPart (op1E negD (constE (.int 2)))) noPart) nilA))))))
  (seqS (asgM 0 (op2F catF (nameE 0) (frzE (lstF (consA (op2E eqD (callE f_thing_put (consA (slE (nameE 2) noPart (aPart (constE (.int 11)))) (consA (constE (.int 12)) (consA (constE (.str "l")) nilA)))) (nameE 2)) nilA)))))
  (retS (callE (f_law_same 8) (consA (nameE 0) (consA (op2E addD (nameE 1) (frzE (lstF (consA (tupE (consA (tupE (consA (constE (.str "a")) nilA)) (consA (tupE nilA) nilA))) (consA (tupE (consA (constE (.str "l")) (consA (constE (.str "k")) nilA))) (consA (constE (.bl true)) nilA)))))) nilA)))))))))))))))
def f_law_shares_right : List D → Res := runF 0 3 m_law_shares_right
theorem ok_law_shares_right (tx : Tx K mg T) : FnOk P w K mg base (L2.CX P w) 10 tx.a_law_shares_right tx.d_law_shares_right [] (spP K T 0 f_law_shares_right) :=
    fn_pure tx.F_law_shares_right sc_law_shares_right (by decide) fun cdv A outer s H E hr tk hp =>
      (xb_cons (xs_setM 0 sc_law_shares_right.nd (xf_lst (xa_cons (xe_call (ok_share_change tx) (hr.mono (by decide)) tx.g_share_change tx.F_share_change.kp (b_share_change tx) tk runF_len (xa_cons (xe_tup (xa_cons xe_str (xa_cons xe_str xa_nil))) (xa_cons (xe_tup (xa_cons xe_str (xa_cons xe_str xa_nil))) xa_nil))) (xa_cons (xe_call (ok_share_change tx) (hr.mono (by decide)) tx.g_share_change tx.F_share_change.kp (b_share_change tx) tk runF_len (xa_cons (xe_tup xa_nil) (xa_cons (xe_tup xa_nil) xa_nil))) xa_nil))))
      (xb_cons (xs_setM 0 sc_law_shares_right.nd (xf_op op_cat p_catF (xe_name 0) (XF.xe (xf_lst (xa_cons (xe_call (ok_share_change tx) (hr.mono (by decide)) tx.g_share_change tx.F_share_change.kp (b_share_change tx) tk runF_len (xa_cons (xe_tup (xa_cons xe_str (xa_cons xe_str xa_nil))) (xa_cons (xe_tup (xa_cons xe_str (xa_cons xe_str xa_nil))) xa_nil))) xa_nil)))))
      (xb_cons (xs_setM 1 sc_law_shares_right.nd (xf_lst (xa_cons (xe_tup (xa_cons (xe_tup (xa_cons xe_str xa_nil)) (xa_cons (xe_tup (xa_cons xe_str xa_nil)) xa_nil))) (xa_cons (xe_tup (xa_cons (xe_tup xa_nil) (xa_cons (xe_tup xa_nil) xa_nil))) (xa_cons (xe_tup (xa_cons (xe_tup xa_nil) (xa_cons (xe_tup xa_nil) xa_nil))) xa_nil)))))
      (xb_cons (xs_setM 0 sc_law_shares_right.nd (xf_op op_cat p_catF (xe_name 0) (XF.xe (xf_lst (xa_cons (xe_call (ok_share_change tx) (hr.mono (by decide)) tx.g_share_change tx.F_share_change.kp (b_share_change tx) tk runF_len (xa_cons (xe_tup (xa_cons xe_str (xa_cons xe_str (xa_cons xe_str xa_nil)))) (xa_cons (xe_tup xa_nil) xa_nil))) (xa_cons (xe_call (ok_share_change tx) (hr.mono (by decide)) tx.g_share_change tx.F_share_change.kp (b_share_change tx) tk runF_len (xa_cons (xe_tup xa_nil) (xa_cons (xe_tup (xa_cons xe_str (xa_cons xe_str xa_nil))) xa_nil))) xa_nil))))))
      (xb_cons (xs_setM 0 sc_law_shares_right.nd (xf_op op_cat p_catF (xe_name 0) (XF.xe (xf_lst (xa_cons (xe_call (ok_share_change tx) (hr.mono (by decide)) tx.g_share_change tx.F_share_change.kp (b_share_change tx) tk runF_len (xa_cons (XF.xe (xf_lst (xa_cons xe_str (xa_cons xe_str xa_nil)))) (xa_cons (XF.xe (xf_lst (xa_cons xe_str (xa_cons xe_str xa_nil)))) xa_nil))) xa_nil)))))
      (xb_cons (xs_setM 1 sc_law_shares_right.nd (xf_op op_cat p_catF (xe_name 1) (XF.xe (xf_lst (xa_cons (xe_tup (xa_cons (xe_tup (xa_cons xe_str (xa_cons xe_str (xa_cons xe_str xa_nil)))) (xa_cons (xe_tup xa_nil) xa_nil))) (xa_cons (xe_tup (xa_cons (xe_tup xa_nil) (xa_cons (xe_tup (xa_cons xe_str (xa_cons xe_str xa_nil))) xa_nil))) (xa_cons (xe_tup (xa_cons (xe_tup (xa_cons xe_str (xa_cons xe_str xa_nil))) (xa_cons (xe_tup (xa_cons xe_str (xa_cons xe_str xa_nil))) xa_nil))) xa_nil)))))))
      (xb_cons (xs_expr (xe_append 0 (xa_cons (xe_callKp (ok_share_change tx) (hr.mono (by decide)) tx.g_share_change tx.F_share_change.kp (kp_share_change_10 tx) tk runF_len (xk_cons (xe_tup (xa_cons xe_str (xa_cons xe_str (xa_cons xe_str xa_nil)))) (xk_cons (xe_tup (xa_cons xe_str (xa_cons xe_str (xa_cons xe_str xa_nil)))) xk_nil))) xa_nil)))
      (xb_cons (xs_expr (xe_append 1 (xa_cons (xe_tup (xa_cons (xe_tup (xa_cons xe_str (xa_cons xe_str xa_nil))) (xa_cons (xe_tup (xa_cons xe_str (xa_cons xe_str xa_nil))) xa_nil))) xa_nil)))
      (xb_cons (xs_set 2 sc_law_shares_right.nd (xe_tup (xa_cons xe_str (xa_cons xe_str (xa_cons xe_str (xa_cons xe_str (xa_cons xe_str (xa_cons xe_str (xa_cons xe_str (xa_cons xe_str (xa_cons xe_str (xa_cons xe_str (xa_cons xe_str (xa_cons xe_str xa_nil))))))))))))))
      (xb_cons (xs_setM 0 sc_law_shares_right.nd (xf_op op_cat p_catF (xe_name 0) (XF.xe (xf_lst (xa_cons (xe_call (ok_share_change tx) (hr.mono (by decide)) tx.g_share_change tx.F_share_change.kp (b_share_change tx) tk runF_len (xa_cons (xe_name 2) (xa_cons (xe_sl (xe_name 2) (xo_some xe_int) xo_none) xa_nil))) (xa_cons (xe_sl (xe_call (ok_list_exchanged tx) (hr.mono (by decide)) tx.g_list_exchanged tx.F_list_exchanged.kp (b_list_exchanged tx) tk runF_len (xa_cons (xe_name 2) (xa_cons xe_int xa_nil))) (xo_some (xe_un un_neg p_neg xe_int)) xo_none) xa_nil))))))
      (xb_cons (xs_setM 0 sc_law_shares_right.nd (xf_op op_cat p_catF (xe_name 0) (XF.xe (xf_lst (xa_cons (xe_cmp (op_eqA hr.units) p_eq (xe_call (ok_thing_put tx) (hr.mono (by decide)) tx.g_thing_put tx.F_thing_put.kp (b_thing_put tx) tk runF_len (xa_cons (xe_sl (xe_name 2) xo_none (xo_some xe_int)) (xa_cons xe_int (xa_cons xe_str xa_nil)))) (xe_name 2)) xa_nil)))))
      (xb_one (xs_ret (xe_call (ok_law_same tx 8) (hr.mono (by decide)) tx.g_law_same tx.F_law_same.kp (b_law_same tx) tk (f_law_same_len 8) (xa_cons (xe_name 0) (xa_cons (xe_op op_addA p_add (xe_name 1) (XF.xe (xf_lst (xa_cons (xe_tup (xa_cons (xe_tup (xa_cons xe_str xa_nil)) (xa_cons (xe_tup xa_nil) xa_nil))) (xa_cons (xe_tup (xa_cons xe_str (xa_cons xe_str xa_nil))) (xa_cons xe_bl xa_nil)))))) xa_nil))))))))))))))))
/-! #### _law_by_hand_right -/
theorem sc_law_by_hand_right : FnScope ["_law_likes_so", "_law_soft", "_law_great", "_law_got", "_law_due_here", "_law_k", "_law_own"] [] (defScope s_law_by_hand_right) := ⟨rfl, rfl, rfl, by decide +kernel, rfl, by decide +kernel, by decide +kernel⟩
theorem b_law_by_hand_right (tx : Tx K mg T) : Binds K tx.d_law_by_hand_right [] [] := tx.F_law_by_hand_right.binds fun _ _ _ _ _ _ us hl => match us, hl with | [], _ => rfl
theorem kw_law_by_hand_right (tx : Tx K mg T) : KwB K tx.d_law_by_hand_right [] := kwB_of tx.F_law_by_hand_right fun _ _ _ _ _ _ us hl => match us, hl with | [], _ => rfl
def m_law_by_hand_right_e1 : Rho → R VD := (callE f_law_heard (consA (constE (.int 0)) (consA (nameE 0) (consA (nameE 5) (consA (constE (.str "")) nilA)))))
def m_law_by_hand_right_c1 : Rho → R (List D) := (compF [5] (rngI2 (consA (op1E negD (constE (.int 1))) (consA (constE (.int 6)) nilA))) (nameG 5) yesT m_law_by_hand_right_e1)
def m_law_by_hand_right_e2 : Rho → R VD := (callE f_law_heard (consA (constE (.int 1)) (consA (nameE 0) (consA (nameE 5) (consA (constE (.str "v")) nilA)))))
def m_law_by_hand_right_c2 : Rho → R (List D) := (compF [5] (rngI2 (consA (constE (.int 0)) (consA (constE (.int 7)) nilA))) (nameG 5) yesT m_law_by_hand_right_e2)
def m_law_by_hand_right_e3 : Rho → R VD := (callE f_law_heard (consA (constE (.int 1)) (consA (nameE 0) (consA (nameE 5) (consA (constE (.str "y")) nilA)))))
def m_law_by_hand_right_c3 : Rho → R (List D) := (compF [5] (seqI (tupE (consA (constE (.int 0)) (consA (constE (.int 1)) (consA (constE (.int 5)) (consA (constE (.int 6)) (consA (nameE 2) nilA))))))) (nameG 5) yesT m_law_by_hand_right_e3)
def m_law_by_hand_right_e4 : Rho → R VD := (callE f_law_heard (consA (constE (.int 2)) (consA (nameE 0) (consA (constE (.int 0)) (consA (nameE 6) nilA)))))
def m_law_by_hand_right_c4 : Rho → R (List D) := (compF [6] (seqI (tupE (consA (constE (.str "x")) (consA (constE (.str "w")) (consA (constE (.str "v")) (consA (constE (.str "xy")) nilA)))))) (nameG 6) yesT m_law_by_hand_right_e4)
def m_law_by_hand_right : Rho → O := (seqS (parS [0, 1, 2] (consMd (tupE (consA (constE (.str "x")) (consA (constE (.str "y")) (consA (constE (.str "z")) (consA (constE (.str "w")) nilA))))) (consMd (frzE (lstF (consA (constE (.str "x")) (consA (constE (.str "y")) (consA (constE (.str "z")) (consA (constE (.str "w")) nilA)))))) (consMd (op2E powD (constE (.int 10)) (constE (.int 30))) nilM))))
  (seqS (asgS 3 (frzE m_law_by_hand_right_c1))
  (seqS (asgS 4 (frzE (lstF (consA (frzE (lstF (consA (constE (.str "far")) (consA (op1E negD (constE (.int 1))) (consA (constE (.bl true)) nilA))))) (consA (frzE (lstF (consA (constE (.str "far")) (consA (constE (.int 0)) (consA (constE (.bl true)) nilA))))) (consA (tupE (consA (constE (.str "y")) (consA (constE (.str "x")) (consA (constE (.str "z")) (consA (constE (.str "w")) nilA))))) (consA (tupE (consA (constE (.str "x")) (consA (constE (.str "z")) (consA (constE (.str "y")) (consA (constE (.str "w")) nilA))))) nilA)))))))
  (seqS (asgS 4 (op2E addD (nameE 4) (frzE (lstF (consA (tupE (consA (constE (.str "x")) (consA (constE (.str "y")) (consA (constE (.str "w")) (consA (constE (.str "z")) nilA))))) nilA)))))
  (seqS (asgS 4 (op2E addD (nameE 4) (frzE (lstF (consA (frzE (lstF (consA (constE (.str "far")) (consA (constE (.int 4)) (consA (constE (.bl true)) nilA))))) (consA (frzE (lstF (consA (constE (.str "far")) (consA (constE (.int 5)) (consA (constE (.bl true)) nilA))))) nilA))))))
  (seqS (asgS 3 (op2E addD (nameE 3) (frzE m_law_by_hand_right_c2)))
  (seqS (asgS 4 (op2E addD (nameE 4) (frzE (lstF (consA (frzE (lstF (consA (constE (.str "far")) (consA (constE (.int 0)) (consA (constE (.bl true)) nilA))))) (consA (tupE (consA (constE (.str "v")) (consA (constE (.str "x")) (consA (constE (.str "y")) (consA (constE (.str "z")) (consA (constE (.str "w")) nilA)))))) (consA (tupE (consA (constE (.str "x")) (consA (constE (.str "v")) (consA (constE (.str "y")) (consA (constE (.str "z")) (consA (constE (.str "w")) nilA)))))) nilA)))))))
  (seqS (asgS 4 (op2E addD (nameE 4) (frzE (lstF (consA (tupE (consA (constE (.str "x")) (consA (constE (.str "y")) (consA (constE (.str "v")) (consA (constE (.str "z")) (consA (constE (.str "w")) nilA)))))) nilA)))))
  (seqS (asgS 4 (op2E addD (nameE 4) (frzE (lstF (consA (tupE (consA (constE (.str "x")) (consA (constE (.str "y")) (consA (constE (.str "z")) (consA (constE (.str "v")) (consA (constE (.str "w")) nilA)))))) (consA (tupE (consA (constE (.str "x")) (consA (constE (.str "y")) (consA (constE (.str "z")) (consA (constE (.str "w")) (consA (constE (.str "v")) nilA)))))) (consA (frzE (lstF (consA (constE (.str "far")) (consA (constE (.int 6)) (consA (constE (.bl true)) nilA))))) nilA)))))))
  (seqS (asgS 3 (op2E addD (nameE 3) (frzE m_law_by_hand_right_c3)))
  (seqS (asgS 4 (op2E addD (nameE 4) (frzE (lstF (consA (frzE (lstF (consA (constE (.str "far")) (consA (constE (.int 0)) (consA (constE (.bl true)) nilA))))) (consA (frzE (lstF (consA (constE (.str "known")) (consA (constE (.str "y")) (consA (constE (.bl true)) nilA))))) (consA (frzE (lstF (consA (constE (.str "known")) (consA (constE (.str "y")) (consA (constE (.bl true)) nilA))))) (consA (frzE (lstF (consA (constE (.str "far")) (consA (constE (.int 6)) (consA (constE (.bl true)) nilA))))) nilA))))))))
  (seqS (asgS 4 (op2E addD (nameE 4) (frzE (lstF (consA (frzE (lstF (consA (constE (.str "far")) (consA (nameE 2) (consA (constE (.bl true)) nilA))))) nilA)))))
  (seqS (asgS 3 (op2E addD (nameE 3) (frzE m_law_by_hand_right_c4)))
  (seqS (asgS 4 (op2E addD (nameE 4) (frzE (lstF (consA (tupE (consA (constE (.str "y")) (consA (constE (.str "z")) (consA (constE (.str "w")) nilA)))) (consA (tupE (consA (constE (.str "x")) (consA (constE (.str "y")) (consA (constE (.str "z")) nilA)))) (consA (frzE (lstF (consA (constE (.str "none")) (consA (constE (.str "v")) (consA (constE (.bl true)) nilA))))) (consA (frzE (lstF (consA (constE (.str "none")) (consA (constE (.str "xy")) (consA (constE (.bl true)) nilA))))) nilA))))))))
  (seqS (asgS 3 (op2E addD (nameE 3) (frzE (lstF (consA (callE f_law_heard (consA (constE (.int 0)) (consA (nameE 1) (consA (constE (.int 1)) (consA (constE (.str "")) nilA))))) (consA (callE f_law_heard (consA (constE (.int 1)) (consA (nameE 1) (consA (constE (.int 2)) (consA (constE (.str "v")) nilA))))) (consA (callE f_law_heard (consA (constE (.int 2)) (consA (nameE 1) (consA (constE (.int 0)) (consA (constE (.str "y")) nilA))))) nilA)))))))
  (seqS (asgS 3 (op2E addD (nameE 3) (frzE (lstF (consA (nameE 1) nilA)))))
  (seqS (asgS 4 (op2E addD (nameE 4) (frzE (lstF (consA (tupE (consA (constE (.str "y")) (consA (constE (.str "x")) (consA (constE (.str "z")) (consA (constE (.str "w")) nilA))))) (consA (tupE (consA (constE (.str "x")) (consA (constE (.str "v")) (consA (constE (.str "y")) (consA (constE (.str "z")) (consA (constE (.str "w")) nilA)))))) (consA (tupE (consA (constE (.str "x")) (consA (constE (.str "z")) (consA (constE (.str "w")) nilA)))) nilA)))))))
  (seqS (asgS 4 (op2E addD (nameE 4) (frzE (lstF (consA (frzE (lstF (consA (constE (.str "x")) (consA (constE (.str "y")) (consA (constE (.str "z")) (consA (constE (.str "w")) nilA)))))) nilA)))))
  (seqS (asgS 3 (op2E addD (nameE 3) (frzE (lstF (consA (callE f_law_heard (consA (constE (.int 0)) (consA (tupE nilA) (consA (constE (.int 1)) (consA (constE (.str "")) nilA))))) (consA (callE f_law_heard (consA (constE (.int 1)) (consA (tupE nilA) (consA (constE (.int 1)) (consA (constE (.str "a")) nilA))))) (consA (callE f_law_heard (consA (constE (.int 2)) (consA (tupE nilA) (consA (constE (.int 0)) (consA (constE (.str "a")) nilA))))) nilA)))))))
  (seqS (asgS 3 (op2E addD (nameE 3) (frzE (lstF (consA (callE f_law_heard (consA (constE (.int 2)) (consA (tupE (consA (constE (.str "a")) nilA)) (consA (constE (.int 0)) (consA (constE (.str "a")) nilA))))) nilA)))))
  (seqS (asgS 3 (op2E addD (nameE 3) (frzE (lstF (consA (callE f_law_heard (consA (constE (.int 0)) (consA (tupE (consA (constE (.str "a")) nilA)) (consA (constE (.int 1)) (consA (constE (.str "")) nilA))))) (consA (callE f_law_heard (consA (constE (.int 1)) (consA (tupE nilA) (consA (constE (.int 0)) (consA (constE (.str "a")) nilA))))) nilA))))))
  (seqS (asgS 3 (op2E addD (nameE 3) (frzE (lstF (consA (callE f_law_heard (consA (constE (.int 0)) (consA (nameE 0) (consA (nameE 2) (consA (constE (.str "")) nilA))))) nilA)))))
  (seqS (asgS 4 (op2E addD (nameE 4) (frzE (lstF (consA (frzE (lstF (consA (constE (.str "far")) (consA (constE (.int 1)) (consA (constE (.bl true)) nilA))))) (consA (tupE (consA (constE (.str "a")) nilA)) (consA (frzE (lstF (consA (constE (.str "none")) (consA (constE (.str "a")) (consA (constE (.bl true)) nilA))))) (consA (tupE nilA) (consA (frzE (lstF (consA (constE (.str "far")) (consA (constE (.int 1)) (consA (constE (.bl true)) nilA))))) nilA)))))))))
  (seqS (asgS 4 (op2E addD (nameE 4) (frzE (lstF (consA (frzE (lstF (consA (constE (.str "far")) (consA (constE (.int 0)) (consA (constE (.bl true)) nilA))))) (consA (frzE (lstF (consA (constE (.str "far")) (consA (nameE 2) (consA (constE (.bl true)) nilA))))) nilA))))))
  (seqS (asgS 3 (op2E addD (nameE 3) (frzE (lstF (consA (callE f_list_exchanged (permA 2 [1, 0] (consA (constE (.int 2)) (consA (nameE 1) nilA)))) (consA (callE f_thing_put (permA 3 [2, 1, 0] (consA (constE (.str "v")) (consA (constE (.int 1)) (consA (nameE 1) nilA))))) nilA))))))
  (seqS (asgS 3 (op2E addD (nameE 3) (frzE (lstF (consA (callE f_thing_left_out (permA 2 [1, 0] (consA (constE (.str "z")) (consA (nameE 1) nilA)))) nilA)))))
  (seqS (asgS 4 (op2E addD (nameE 4) (frzE (lstF (consA (tupE (consA (constE (.str "x")) (consA (constE (.str "z")) (consA (constE (.str "y")) (consA (constE (.str "w")) nilA))))) (consA (tupE (consA (constE (.str "v")) (consA (constE (.str "x")) (consA (constE (.str "y")) (consA (constE (.str "z")) (consA (constE (.str "w")) nilA)))))) (consA (tupE (consA (constE (.str "x")) (consA (constE (.str "y")) (consA (constE (.str "w")) nilA)))) nilA)))))))
  (retS (andE (callE (f_law_same 8) (consA (nameE 3) (consA (nameE 4) nilA))) (callE f_law_shares_right nilA))))))))))))))))))))))))))))))
def f_law_by_hand_right : List D → Res := runF 0 7 m_law_by_hand_right
theorem ok_law_by_hand_right (tx : Tx K mg T) : FnOk P w K mg base (L2.CX P w) 11 tx.a_law_by_hand_right tx.d_law_by_hand_right [] (spP K T 0 f_law_by_hand_right) :=
    fn_pure tx.F_law_by_hand_right sc_law_by_hand_right (by decide) fun cdv A outer s H E hr tk hp =>
      (xb_cons (by first | exact (xs_par3 0 1 2 rfl sc_law_by_hand_right.nd (xm_d (xe_tup (xa_cons xe_str (xa_cons xe_str (xa_cons xe_str (xa_cons xe_str xa_nil))))) (xm_d (XF.xe (xf_lst (xa_cons xe_str (xa_cons xe_str (xa_cons xe_str (xa_cons xe_str xa_nil)))))) (xm_d (xe_op op_pow p_pow xe_int xe_int) xm_nil)))) | exact (xs_parN (is := [0, 1, 2]) rfl (by decide) rfl (by decide) (xm_d (xe_tup (xa_cons xe_str (xa_cons xe_str (xa_cons xe_str (xa_cons xe_str xa_nil))))) (xm_d (XF.xe (xf_lst (xa_cons xe_str (xa_cons xe_str (xa_cons xe_str (xa_cons xe_str xa_nil)))))) (xm_d (xe_op op_pow p_pow xe_int xe_int) xm_nil))) (pgs_names (pgs_cons (pg_name (i := 0) sc_law_by_hand_right.nd rfl (by first | exact Or.inl rfl | exact Or.inr rfl)) (pgs_cons (pg_name (i := 1) sc_law_by_hand_right.nd rfl (by first | exact Or.inl rfl | exact Or.inr rfl)) (pgs_cons (pg_name (i := 2) sc_law_by_hand_right.nd rfl (by first | exact Or.inl rfl | exact Or.inr rfl)) pgs_nil))) (gn_cons (i := 0) (gn_cons (i := 1) (gn_cons (i := 2) gn_nil))))))
      (xb_cons (xs_setLc 3 rfl sc_law_by_hand_right.nd (xi_range2 tx.z_range (xa_cons (xe_un un_neg p_neg xe_int) (xa_cons xe_int xa_nil))) (blkOk_by (own := [("_law_k", 5)]) (by kernel_rfl)) (fun _ _ _ _ _ => (xgo_name 5 sc_law_by_hand_right.nd)) (fun _ _ _ _ _ => xts_nil) (fun _ _ _ _ _ => (xe_call (ok_law_heard tx) (hr.mono (by decide)) tx.g_law_heard tx.F_law_heard.kp (b_law_heard tx) takes0 runF_len (xa_cons xe_int (xa_cons (xe_name 0) (xa_cons (xe_name 5) (xa_cons xe_str xa_nil)))))) (sw_true rfl rfl rfl (by decide +kernel)))
      (xb_cons (xs_set 4 sc_law_by_hand_right.nd (XF.xe (xf_lst (xa_cons (XF.xe (xf_lst (xa_cons xe_str (xa_cons (xe_un un_neg p_neg xe_int) (xa_cons xe_bl xa_nil))))) (xa_cons (XF.xe (xf_lst (xa_cons xe_str (xa_cons xe_int (xa_cons xe_bl xa_nil))))) (xa_cons (xe_tup (xa_cons xe_str (xa_cons xe_str (xa_cons xe_str (xa_cons xe_str xa_nil))))) (xa_cons (xe_tup (xa_cons xe_str (xa_cons xe_str (xa_cons xe_str (xa_cons xe_str xa_nil))))) xa_nil)))))))
      (xb_cons (xs_set 4 sc_law_by_hand_right.nd (xe_op op_addA p_add (xe_name 4) (XF.xe (xf_lst (xa_cons (xe_tup (xa_cons xe_str (xa_cons xe_str (xa_cons xe_str (xa_cons xe_str xa_nil))))) xa_nil)))))
      (xb_cons (xs_set 4 sc_law_by_hand_right.nd (xe_op op_addA p_add (xe_name 4) (XF.xe (xf_lst (xa_cons (XF.xe (xf_lst (xa_cons xe_str (xa_cons xe_int (xa_cons xe_bl xa_nil))))) (xa_cons (XF.xe (xf_lst (xa_cons xe_str (xa_cons xe_int (xa_cons xe_bl xa_nil))))) xa_nil))))))
      (xb_cons (xs_set 3 sc_law_by_hand_right.nd (xe_op op_addA p_add (xe_name 3) (XF.xe (xf_lc rfl sc_law_by_hand_right.nd (xi_range2 tx.z_range (xa_cons xe_int (xa_cons xe_int xa_nil))) (blkOk_by (own := [("_law_k", 5)]) (by kernel_rfl)) (fun _ _ _ _ _ => (xgo_name 5 sc_law_by_hand_right.nd)) (fun _ _ _ _ _ => xts_nil) (fun _ _ _ _ _ => (xe_call (ok_law_heard tx) (hr.mono (by decide)) tx.g_law_heard tx.F_law_heard.kp (b_law_heard tx) takes0 runF_len (xa_cons xe_int (xa_cons (xe_name 0) (xa_cons (xe_name 5) (xa_cons xe_str xa_nil))))))))))
      (xb_cons (xs_set 4 sc_law_by_hand_right.nd (xe_op op_addA p_add (xe_name 4) (XF.xe (xf_lst (xa_cons (XF.xe (xf_lst (xa_cons xe_str (xa_cons xe_int (xa_cons xe_bl xa_nil))))) (xa_cons (xe_tup (xa_cons xe_str (xa_cons xe_str (xa_cons xe_str (xa_cons xe_str (xa_cons xe_str xa_nil)))))) (xa_cons (xe_tup (xa_cons xe_str (xa_cons xe_str (xa_cons xe_str (xa_cons xe_str (xa_cons xe_str xa_nil)))))) xa_nil)))))))
      (xb_cons (xs_set 4 sc_law_by_hand_right.nd (xe_op op_addA p_add (xe_name 4) (XF.xe (xf_lst (xa_cons (xe_tup (xa_cons xe_str (xa_cons xe_str (xa_cons xe_str (xa_cons xe_str (xa_cons xe_str xa_nil)))))) xa_nil)))))
      (xb_cons (xs_set 4 sc_law_by_hand_right.nd (xe_op op_addA p_add (xe_name 4) (XF.xe (xf_lst (xa_cons (xe_tup (xa_cons xe_str (xa_cons xe_str (xa_cons xe_str (xa_cons xe_str (xa_cons xe_str xa_nil)))))) (xa_cons (xe_tup (xa_cons xe_str (xa_cons xe_str (xa_cons xe_str (xa_cons xe_str (xa_cons xe_str xa_nil)))))) (xa_cons (XF.xe (xf_lst (xa_cons xe_str (xa_cons xe_int (xa_cons xe_bl xa_nil))))) xa_nil)))))))
      (xb_cons (xs_set 3 sc_law_by_hand_right.nd (xe_op op_addA p_add (xe_name 3) (XF.xe (xf_lc rfl sc_law_by_hand_right.nd (xi_seq (xe_tup (xa_cons xe_int (xa_cons xe_int (xa_cons xe_int (xa_cons xe_int (xa_cons (xe_name 2) xa_nil))))))) (blkOk_by (own := [("_law_k", 5)]) (by kernel_rfl)) (fun _ _ _ _ _ => (xgo_name 5 sc_law_by_hand_right.nd)) (fun _ _ _ _ _ => xts_nil) (fun _ _ _ _ _ => (xe_call (ok_law_heard tx) (hr.mono (by decide)) tx.g_law_heard tx.F_law_heard.kp (b_law_heard tx) takes0 runF_len (xa_cons xe_int (xa_cons (xe_name 0) (xa_cons (xe_name 5) (xa_cons xe_str xa_nil))))))))))
      (xb_cons (xs_set 4 sc_law_by_hand_right.nd (xe_op op_addA p_add (xe_name 4) (XF.xe (xf_lst (xa_cons (XF.xe (xf_lst (xa_cons xe_str (xa_cons xe_int (xa_cons xe_bl xa_nil))))) (xa_cons (XF.xe (xf_lst (xa_cons xe_str (xa_cons xe_str (xa_cons xe_bl xa_nil))))) (xa_cons (XF.xe (xf_lst (xa_cons xe_str (xa_cons xe_str (xa_cons xe_bl xa_nil))))) (xa_cons (XF.xe (xf_lst (xa_cons xe_str (xa_cons xe_int (xa_cons xe_bl xa_nil))))) xa_nil))))))))
      (xb_cons (xs_set 4 sc_law_by_hand_right.nd (xe_op op_addA p_add (xe_name 4) (XF.xe (xf_lst (xa_cons (XF.xe (xf_lst (xa_cons xe_str (xa_cons (xe_name 2) (xa_cons xe_bl xa_nil))))) xa_nil)))))
      (xb_cons (xs_set 3 sc_law_by_hand_right.nd (xe_op op_addA p_add (xe_name 3) (XF.xe (xf_lc rfl sc_law_by_hand_right.nd (xi_seq (xe_tup (xa_cons xe_str (xa_cons xe_str (xa_cons xe_str (xa_cons xe_str xa_nil)))))) (blkOk_by (own := [("_law_own", 6)]) (by kernel_rfl)) (fun _ _ _ _ _ => (xgo_name 6 sc_law_by_hand_right.nd)) (fun _ _ _ _ _ => xts_nil) (fun _ _ _ _ _ => (xe_call (ok_law_heard tx) (hr.mono (by decide)) tx.g_law_heard tx.F_law_heard.kp (b_law_heard tx) takes0 runF_len (xa_cons xe_int (xa_cons (xe_name 0) (xa_cons xe_int (xa_cons (xe_name 6) xa_nil))))))))))
      (xb_cons (xs_set 4 sc_law_by_hand_right.nd (xe_op op_addA p_add (xe_name 4) (XF.xe (xf_lst (xa_cons (xe_tup (xa_cons xe_str (xa_cons xe_str (xa_cons xe_str xa_nil)))) (xa_cons (xe_tup (xa_cons xe_str (xa_cons xe_str (xa_cons xe_str xa_nil)))) (xa_cons (XF.xe (xf_lst (xa_cons xe_str (xa_cons xe_str (xa_cons xe_bl xa_nil))))) (xa_cons (XF.xe (xf_lst (xa_cons xe_str (xa_cons xe_str (xa_cons xe_bl xa_nil))))) xa_nil))))))))
      (xb_cons (xs_set 3 sc_law_by_hand_right.nd (xe_op op_addA p_add (xe_name 3) (XF.xe (xf_lst (xa_cons (xe_call (ok_law_heard tx) (hr.mono (by decide)) tx.g_law_heard tx.F_law_heard.kp (b_law_heard tx) tk runF_len (xa_cons xe_int (xa_cons (xe_name 1) (xa_cons xe_int (xa_cons xe_str xa_nil))))) (xa_cons (xe_call (ok_law_heard tx) (hr.mono (by decide)) tx.g_law_heard tx.F_law_heard.kp (b_law_heard tx) tk runF_len (xa_cons xe_int (xa_cons (xe_name 1) (xa_cons xe_int (xa_cons xe_str xa_nil))))) (xa_cons (xe_call (ok_law_heard tx) (hr.mono (by decide)) tx.g_law_heard tx.F_law_heard.kp (b_law_heard tx) tk runF_len (xa_cons xe_int (xa_cons (xe_name 1) (xa_cons xe_int (xa_cons xe_str xa_nil))))) xa_nil)))))))
      (xb_cons (xs_set 3 sc_law_by_hand_right.nd (xe_op op_addA p_add (xe_name 3) (XF.xe (xf_lst (xa_cons (xe_name 1) xa_nil)))))
      (xb_cons (xs_set 4 sc_law_by_hand_right.nd (xe_op op_addA p_add (xe_name 4) (XF.xe (xf_lst (xa_cons (xe_tup (xa_cons xe_str (xa_cons xe_str (xa_cons xe_str (xa_cons xe_str xa_nil))))) (xa_cons (xe_tup (xa_cons xe_str (xa_cons xe_str (xa_cons xe_str (xa_cons xe_str (xa_cons xe_str xa_nil)))))) (xa_cons (xe_tup (xa_cons xe_str (xa_cons xe_str (xa_cons xe_str xa_nil)))) xa_nil)))))))
      (xb_cons (xs_set 4 sc_law_by_hand_right.nd (xe_op op_addA p_add (xe_name 4) (XF.xe (xf_lst (xa_cons (XF.xe (xf_lst (xa_cons xe_str (xa_cons xe_str (xa_cons xe_str (xa_cons xe_str xa_nil)))))) xa_nil)))))
      (xb_cons (xs_set 3 sc_law_by_hand_right.nd (xe_op op_addA p_add (xe_name 3) (XF.xe (xf_lst (xa_cons (xe_call (ok_law_heard tx) (hr.mono (by decide)) tx.g_law_heard tx.F_law_heard.kp (b_law_heard tx) tk runF_len (xa_cons xe_int (xa_cons (xe_tup xa_nil) (xa_cons xe_int (xa_cons xe_str xa_nil))))) (xa_cons (xe_call (ok_law_heard tx) (hr.mono (by decide)) tx.g_law_heard tx.F_law_heard.kp (b_law_heard tx) tk runF_len (xa_cons xe_int (xa_cons (xe_tup xa_nil) (xa_cons xe_int (xa_cons xe_str xa_nil))))) (xa_cons (xe_call (ok_law_heard tx) (hr.mono (by decide)) tx.g_law_heard tx.F_law_heard.kp (b_law_heard tx) tk runF_len (xa_cons xe_int (xa_cons (xe_tup xa_nil) (xa_cons xe_int (xa_cons xe_str xa_nil))))) xa_nil)))))))
      (xb_cons (xs_set 3 sc_law_by_hand_right.nd (xe_op op_addA p_add (xe_name 3) (XF.xe (xf_lst (xa_cons (xe_call (ok_law_heard tx) (hr.mono (by decide)) tx.g_law_heard tx.F_law_heard.kp (b_law_heard tx) tk runF_len (xa_cons xe_int (xa_cons (xe_tup (xa_cons xe_str xa_nil)) (xa_cons xe_int (xa_cons xe_str xa_nil))))) xa_nil)))))
      (xb_cons (xs_set 3 sc_law_by_hand_right.nd (xe_op op_addA p_add (xe_name 3) (XF.xe (xf_lst (xa_cons (xe_call (ok_law_heard tx) (hr.mono (by decide)) tx.g_law_heard tx.F_law_heard.kp (b_law_heard tx) tk runF_len (xa_cons xe_int (xa_cons (xe_tup (xa_cons xe_str xa_nil)) (xa_cons xe_int (xa_cons xe_str xa_nil))))) (xa_cons (xe_call (ok_law_heard tx) (hr.mono (by decide)) tx.g_law_heard tx.F_law_heard.kp (b_law_heard tx) tk runF_len (xa_cons xe_int (xa_cons (xe_tup xa_nil) (xa_cons xe_int (xa_cons xe_str xa_nil))))) xa_nil))))))
      (xb_cons (xs_set 3 sc_law_by_hand_right.nd (xe_op op_addA p_add (xe_name 3) (XF.xe (xf_lst (xa_cons (xe_call (ok_law_heard tx) (hr.mono (by decide)) tx.g_law_heard tx.F_law_heard.kp (b_law_heard tx) tk runF_len (xa_cons xe_int (xa_cons (xe_name 0) (xa_cons (xe_name 2) (xa_cons xe_str xa_nil))))) xa_nil)))))
      (xb_cons (xs_set 4 sc_law_by_hand_right.nd (xe_op op_addA p_add (xe_name 4) (XF.xe (xf_lst (xa_cons (XF.xe (xf_lst (xa_cons xe_str (xa_cons xe_int (xa_cons xe_bl xa_nil))))) (xa_cons (xe_tup (xa_cons xe_str xa_nil)) (xa_cons (XF.xe (xf_lst (xa_cons xe_str (xa_cons xe_str (xa_cons xe_bl xa_nil))))) (xa_cons (xe_tup xa_nil) (xa_cons (XF.xe (xf_lst (xa_cons xe_str (xa_cons xe_int (xa_cons xe_bl xa_nil))))) xa_nil)))))))))
      (xb_cons (xs_set 4 sc_law_by_hand_right.nd (xe_op op_addA p_add (xe_name 4) (XF.xe (xf_lst (xa_cons (XF.xe (xf_lst (xa_cons xe_str (xa_cons xe_int (xa_cons xe_bl xa_nil))))) (xa_cons (XF.xe (xf_lst (xa_cons xe_str (xa_cons (xe_name 2) (xa_cons xe_bl xa_nil))))) xa_nil))))))
      (xb_cons (xs_set 3 sc_law_by_hand_right.nd (xe_op op_addA p_add (xe_name 3) (XF.xe (xf_lst (xa_cons (xe_callKp (ok_list_exchanged tx) (hr.mono (by decide)) tx.g_list_exchanged tx.F_list_exchanged.kp (kp_list_exchanged_10 tx) tk runF_len (xk_cons xe_int (xk_cons (xe_name 1) xk_nil))) (xa_cons (xe_callKp (ok_thing_put tx) (hr.mono (by decide)) tx.g_thing_put tx.F_thing_put.kp (kp_thing_put_210 tx) tk runF_len (xk_cons xe_str (xk_cons xe_int (xk_cons (xe_name 1) xk_nil)))) xa_nil))))))
      (xb_cons (xs_set 3 sc_law_by_hand_right.nd (xe_op op_addA p_add (xe_name 3) (XF.xe (xf_lst (xa_cons (xe_callKp (ok_thing_left_out tx) (hr.mono (by decide)) tx.g_thing_left_out tx.F_thing_left_out.kp (kp_thing_left_out_10 tx) tk runF_len (xk_cons xe_str (xk_cons (xe_name 1) xk_nil))) xa_nil)))))
      (xb_cons (xs_set 4 sc_law_by_hand_right.nd (xe_op op_addA p_add (xe_name 4) (XF.xe (xf_lst (xa_cons (xe_tup (xa_cons xe_str (xa_cons xe_str (xa_cons xe_str (xa_cons xe_str xa_nil))))) (xa_cons (xe_tup (xa_cons xe_str (xa_cons xe_str (xa_cons xe_str (xa_cons xe_str (xa_cons xe_str xa_nil)))))) (xa_cons (xe_tup (xa_cons xe_str (xa_cons xe_str (xa_cons xe_str xa_nil)))) xa_nil)))))))
      (xb_one (xs_ret (xe_and (xe_call (ok_law_same tx 8) (hr.mono (by decide)) tx.g_law_same tx.F_law_same.kp (b_law_same tx) tk (f_law_same_len 8) (xa_cons (xe_name 3) (xa_cons (xe_name 4) xa_nil))) (xe_one (xe_call0 (ok_law_shares_right tx) (hr.mono (by decide)) tx.g_law_shares_right tx.F_law_shares_right.kp (kw_law_shares_right tx) tk runF_len))))))))))))))))))))))))))))))))
/-! #### _law_right -/
theorem sc_law_right : FnScope ["_law_box_here", "_law_turn", "_law_likes_so", "_law_names_so", "_law_k", "_law_own", "_law_got", "_law_some", "_law_lost_so", "_law_more_so", "_law_side", "_law_door"] ["_law_box_here"] (defScope s_law_right) := ⟨rfl, rfl, rfl, by decide +kernel, rfl, by decide +kernel, by decide +kernel⟩
theorem b_law_right (tx : Tx K mg T) : Binds K tx.d_law_right ["_law_box_here"] [] := tx.F_law_right.binds fun _ _ _ _ _ _ us hl => match us, hl with | [_], _ => rfl
def m_law_right_e1 : Rho → R VD := (callE f_law_heard (consA (nameE 11) (consA (nameE 2) (consA (nameE 4) (consA (nameE 5) nilA)))))
def m_law_right_c1 : Rho → R (List D) := (compF [11] (rngI1 (consA (constE (.int 3)) nilA)) (nameG 11) yesT m_law_right_e1)
def m_law_right_e2 : Rho → R VD := (callE f_law_heard (consA (nameE 11) (consA (frzE (opNF listF (consA (nameE 2) nilA))) (consA (nameE 4) (consA (nameE 5) nilA)))))
def m_law_right_c2 : Rho → R (List D) := (compF [11] (rngI1 (consA (constE (.int 3)) nilA)) (nameG 11) yesT m_law_right_e2)
def m_law_right_e3 : Rho → R VD := (callE f_law_due (consA (nameE 11) (consA (nameE 2) (consA (nameE 4) (consA (nameE 5) nilA)))))
def m_law_right_c3 : Rho → R (List D) := (compF [11] (rngI1 (consA (constE (.int 3)) nilA)) (nameG 11) yesT m_law_right_e3)
def m_law_right_b1 : Rho → O := (seqS (asgS 5 (callBE f_law_of (consA (nameE 0) (consA (nameE 3) nilA))))
  (seqS (asgS 6 (frzE m_law_right_c1))
  (seqS (asgS 6 (op2E addD (nameE 6) (frzE m_law_right_c2)))
  (ifS (notT (valT (callE (f_law_same 8) (consA (nameE 6) (consA (op2E mulD (frzE m_law_right_c3) (constE (.int 2))) nilA))))) (retS (constE (.bl false))) nextS))))
def m_law_right_l1 : Rho → O := (forS (rngI1 (consA (op2E addD (opNE lenD (consA (nameE 2) nilA)) (constE (.int 3))) nilA)) (nameG 4) m_law_right_b1)
def m_law_right_e4 : Rho → R VD := (opNE tupleTD (consA (frzE (opNF sortedF (consA (callBE f_law_pick (consA (nameE 0) (consA (nameE 2) (consA (callBE f_law_take (consA (nameE 0) (consA (op2E addD (opNE lenD (consA (nameE 2) nilA)) (constE (.int 1))) nilA))) nilA)))) nilA))) nilA))
def m_law_right_c4 : Rho → R (List D) := (compF [10] (rngI1 (consA (constE (.int 2)) nilA)) (nameG 10) yesT m_law_right_e4)
def m_law_right_t1 : Rho → R Bool := (valT (op2E ninD (nameE 5) (op2E atD (nameE 7) (constE (.int 1)))))
def m_law_right_e5 : Rho → R VD := (nameE 5)
def m_law_right_c5 : Rho → R (List D) := (compF [5] (seqI (op2E atD (nameE 7) (constE (.int 0)))) (nameG 5) m_law_right_t1 m_law_right_e5)
def m_law_right_t2 : Rho → R Bool := (valT (op2E ninD (nameE 5) (op2E atD (nameE 7) (constE (.int 0)))))
def m_law_right_e6 : Rho → R VD := (nameE 5)
def m_law_right_c6 : Rho → R (List D) := (compF [5] (seqI (op2E atD (nameE 7) (constE (.int 1)))) (nameG 5) m_law_right_t2 m_law_right_e6)
def m_law_right_b2 : Rho → O := (seqS (asgS 2 (callBE f_law_likes (consA (nameE 0) (consA (callBE f_law_take (consA (nameE 0) (consA (constE (.int 12)) nilA))) nilA))))
  (seqS (asgS 3 (frzE (lstF (consA (constE (.str "x")) (consA (constE (.str "y")) (consA (constE (.str "q")) (consA (constE (.str "zzzzzzzz")) (consA (constE (.str "ab")) nilA))))))))
  (seqS m_law_right_l1
  (seqS (asgS 7 (frzE m_law_right_c4))
  (seqS (asgS 8 (opNE tupleTD (consA (frzE m_law_right_c5) nilA)))
  (seqS (asgS 9 (opNE tupleTD (consA (frzE m_law_right_c6) nilA)))
  (ifS (notT (valT (callE (f_law_same 8) (consA (callE f_share_change (consA (op2E atD (nameE 7) (constE (.int 0))) (consA (frzE (opNF listF (consA (op2E atD (nameE 7) (constE (.int 1))) nilA))) nilA))) (consA (tupE (consA (nameE 8) (consA (nameE 9) nilA))) nilA))))) (retS (constE (.bl false))) nextS)))))))
def m_law_right_l2 : Rho → O := (forS (rngI1 (consA (constE (.int 8)) nilA)) (nameG 1) m_law_right_b2)
def m_law_right : Rho → O := (seqS m_law_right_l2
  (retS (constE (.bl true))))
def f_law_right : List Int → List D → Option (D × List Int) := runB 0 11 m_law_right
theorem ok_law_right (tx : Tx K mg T) : FnOk P w K mg base (L2.CX P w) 10 tx.a_law_right tx.d_law_right ["_law_box_here"] (spB K T 0 f_law_right) :=
    fn_box tx.F_law_right sc_law_right (by decide) rfl rfl fun cdv A outer s H E hr hp =>
      (xb_cons (xs_for hp rfl (xi_range1 tx.z_range (xa_cons xe_int xa_nil)) (xg_name 1 sc_law_right.nd) (xb_cons (xs_set 2 sc_law_right.nd (xe_callBx (ok_law_likes tx) (hr.mono (by decide)) tx.g_law_likes tx.F_law_likes.kp (b_law_likes tx) takes0 runB_len (xa_cons (xe_name 0) (xa_cons (xe_callBx (ok_law_take tx) (hr.mono (by decide)) tx.g_law_take tx.F_law_take.kp (b_law_take tx) takes0 runB_len (xa_cons (xe_name 0) (xa_cons xe_int xa_nil))) xa_nil))))
      (xb_cons (xs_set 3 sc_law_right.nd (XF.xe (xf_lst (xa_cons xe_str (xa_cons xe_str (xa_cons xe_str (xa_cons xe_str (xa_cons xe_str xa_nil))))))))
      (xb_cons (xs_for hp rfl (xi_range1 tx.z_range (xa_cons (xe_op op_addA p_add (xe_callB call_len p_len tx.z_len (by decide +kernel) (xa_cons (xe_name 2) xa_nil)) xe_int) xa_nil)) (xg_name 4 sc_law_right.nd) (xb_cons (xs_set 5 sc_law_right.nd (xe_callBx (ok_law_of tx) (hr.mono (by decide)) tx.g_law_of tx.F_law_of.kp (b_law_of tx) takes0 runB_len (xa_cons (xe_name 0) (xa_cons (xe_name 3) xa_nil))))
      (xb_cons (xs_setLc 6 rfl sc_law_right.nd (xi_range1 tx.z_range (xa_cons xe_int xa_nil)) (blkOk_by (own := [("_law_door", 11)]) (by kernel_rfl)) (fun _ _ _ _ _ => (xgo_name 11 sc_law_right.nd)) (fun _ _ _ _ _ => xts_nil) (fun _ _ _ _ _ => (xe_call (ok_law_heard tx) (hr.mono (by decide)) tx.g_law_heard tx.F_law_heard.kp (b_law_heard tx) takes0 runF_len (xa_cons (xe_name 11) (xa_cons (xe_name 2) (xa_cons (xe_name 4) (xa_cons (xe_name 5) xa_nil)))))) (sw_true rfl rfl rfl (by decide +kernel)))
      (xb_cons (xs_set 6 sc_law_right.nd (xe_op op_addA p_add (xe_name 6) (XF.xe (xf_lc rfl sc_law_right.nd (xi_range1 tx.z_range (xa_cons xe_int xa_nil)) (blkOk_by (own := [("_law_door", 11)]) (by kernel_rfl)) (fun _ _ _ _ _ => (xgo_name 11 sc_law_right.nd)) (fun _ _ _ _ _ => xts_nil) (fun _ _ _ _ _ => (xe_call (ok_law_heard tx) (hr.mono (by decide)) tx.g_law_heard tx.F_law_heard.kp (b_law_heard tx) takes0 runF_len (xa_cons (xe_name 11) (xa_cons (XF.xe (xf_callTy call_list_of p_list tx.z_list (by decide +kernel) (xa_cons (xe_name 2) xa_nil))) (xa_cons (xe_name 4) (xa_cons (xe_name 5) xa_nil))))))))))
      (xb_one (xs_if (xt_not (xt_val (xe_call (ok_law_same tx 8) (hr.mono (by decide)) tx.g_law_same tx.F_law_same.kp (b_law_same tx) takes0 (f_law_same_len 8) (xa_cons (xe_name 6) (xa_cons (xe_op op_mulA p_mul (XF.xe (xf_lc rfl sc_law_right.nd (xi_range1 tx.z_range (xa_cons xe_int xa_nil)) (blkOk_by (own := [("_law_door", 11)]) (by kernel_rfl)) (fun _ _ _ _ _ => (xgo_name 11 sc_law_right.nd)) (fun _ _ _ _ _ => xts_nil) (fun _ _ _ _ _ => (xe_call (ok_law_due tx) (hr.mono (by decide)) tx.g_law_due tx.F_law_due.kp (b_law_due tx) takes0 runF_len (xa_cons (xe_name 11) (xa_cons (xe_name 2) (xa_cons (xe_name 4) (xa_cons (xe_name 5) xa_nil)))))))) xe_int) xa_nil))))) (xb_one (xs_ret xe_bl)) xb_nil))))))
      (xb_cons (xs_set 7 sc_law_right.nd (XF.xe (xf_lc rfl sc_law_right.nd (xi_range1 tx.z_range (xa_cons xe_int xa_nil)) (blkOk_by (own := [("_law_side", 10)]) (by kernel_rfl)) (fun _ _ _ _ _ => (xgo_name 10 sc_law_right.nd)) (fun _ _ _ _ _ => xts_nil) (fun _ _ _ _ _ => (xe_callTy (call_tupleA rfl) p_tupleT tx.z_tuple (by decide +kernel) (xa_cons (XF.xe (xf_callB call_sortedA p_sorted tx.z_sorted (by decide +kernel) (xa_cons (xe_callBx (ok_law_pick tx) (hr.mono (by decide)) tx.g_law_pick tx.F_law_pick.kp (b_law_pick tx) takes0 runB_len (xa_cons (xe_name 0) (xa_cons (xe_name 2) (xa_cons (xe_callBx (ok_law_take tx) (hr.mono (by decide)) tx.g_law_take tx.F_law_take.kp (b_law_take tx) takes0 runB_len (xa_cons (xe_name 0) (xa_cons (xe_op op_addA p_add (xe_callB call_len p_len tx.z_len (by decide +kernel) (xa_cons (xe_name 2) xa_nil)) xe_int) xa_nil))) xa_nil)))) xa_nil))) xa_nil))))))
      (xb_cons (xs_set 8 sc_law_right.nd (xe_callTy (call_tupleA rfl) p_tupleT tx.z_tuple (by decide +kernel) (xa_cons (XF.xe (xf_lc rfl sc_law_right.nd (xi_seq (xe_ix ix_seq p_ix (xe_name 7) xe_int)) (blkOk_by (own := [("_law_own", 5)]) (by kernel_rfl)) (fun _ _ _ _ _ => (xgo_name 5 sc_law_right.nd)) (fun _ _ _ _ _ => (xts_one (xt_cmp op_ninA p_nin (xe_name 5) (xe_ix ix_seq p_ix (xe_name 7) xe_int)))) (fun _ _ _ _ _ => (xe_name 5)))) xa_nil)))
      (xb_cons (xs_set 9 sc_law_right.nd (xe_callTy (call_tupleA rfl) p_tupleT tx.z_tuple (by decide +kernel) (xa_cons (XF.xe (xf_lc rfl sc_law_right.nd (xi_seq (xe_ix ix_seq p_ix (xe_name 7) xe_int)) (blkOk_by (own := [("_law_own", 5)]) (by kernel_rfl)) (fun _ _ _ _ _ => (xgo_name 5 sc_law_right.nd)) (fun _ _ _ _ _ => (xts_one (xt_cmp op_ninA p_nin (xe_name 5) (xe_ix ix_seq p_ix (xe_name 7) xe_int)))) (fun _ _ _ _ _ => (xe_name 5)))) xa_nil)))
      (xb_one (xs_if (xt_not (xt_val (xe_call (ok_law_same tx 8) (hr.mono (by decide)) tx.g_law_same tx.F_law_same.kp (b_law_same tx) takes0 (f_law_same_len 8) (xa_cons (xe_call (ok_share_change tx) (hr.mono (by decide)) tx.g_share_change tx.F_share_change.kp (b_share_change tx) takes0 runF_len (xa_cons (xe_ix ix_seq p_ix (xe_name 7) xe_int) (xa_cons (XF.xe (xf_callTy call_list_of p_list tx.z_list (by decide +kernel) (xa_cons (xe_ix ix_seq p_ix (xe_name 7) xe_int) xa_nil))) xa_nil))) (xa_cons (xe_tup (xa_cons (xe_name 8) (xa_cons (xe_name 9) xa_nil))) xa_nil))))) (xb_one (xs_ret xe_bl)) xb_nil)))))))))
      (xb_one (xs_ret xe_bl)))
/-! #### law -/
theorem sc_law : FnScope ["_law_script", "_law_cells_here", "_law_k"] ["_law_script"] (defScope s_law) := ⟨rfl, rfl, rfl, by decide +kernel, rfl, by decide +kernel, by decide +kernel⟩
theorem b_law (tx : Tx K mg T) : Binds K tx.d_law ["_law_script"] [] := tx.F_law.binds fun _ _ _ _ _ _ us hl => match us, hl with | [_], _ => rfl
theorem kw_law (tx : Tx K mg T) : KwB K tx.d_law ["_law_script"] := kwB_of tx.F_law fun _ _ _ _ _ _ us hl => match us, hl with | [_], _ => rfl
def m_law_e1 : Rho → R VD := (callNew f_law_right (callL f_law_box (consA (nameE 1) (consA (nameE 2) nilA))))
def m_law_c1 : Rho → R (List D) := (compF [2] (rngI1 (consA (opNE lenD (consA (nameE 1) nilA)) nilA)) (nameG 2) yesT m_law_e1)
def m_law : Rho → O := (seqS (ifS (notT (valT (callE f_law_by_hand_right nilA))) (retS (constE (.bl false))) nextS)
  (seqS (asgS 1 (callE f_law_cells (consA (nameE 0) (consA (constE (.int 3)) nilA))))
  (retS (opNE allD (consA (frzE m_law_c1) nilA)))))
def f_law : List D → Res := runF 1 3 m_law
theorem ok_law (tx : Tx K mg T) : FnOk P w K mg base (L2.CX P w) 12 tx.a_law tx.d_law ["_law_script"] (spP K T 1 f_law) :=
    fn_pure tx.F_law sc_law (by decide) fun cdv A outer s H E hr tk hp =>
      (xb_cons (xs_if (xt_not (xt_val (xe_call0 (ok_law_by_hand_right tx) (hr.mono (by decide)) tx.g_law_by_hand_right tx.F_law_by_hand_right.kp (kw_law_by_hand_right tx) tk runF_len))) (xb_one (xs_ret xe_bl)) xb_nil)
      (xb_cons (xs_set 1 sc_law.nd (xe_call (ok_law_cells tx) (hr.mono (by decide)) tx.g_law_cells tx.F_law_cells.kp (b_law_cells tx) tk runF_len (xa_cons (xe_name 0) (xa_cons xe_int xa_nil))))
      (xb_one (xs_ret (xe_callB (cr_all rfl) p_all tx.z_all (by decide +kernel) (xa_cons (XF.xe (xf_lc rfl sc_law.nd (xi_range1 tx.z_range (xa_cons (xe_callB call_len p_len tx.z_len (by decide +kernel) (xa_cons (xe_name 1) xa_nil)) xa_nil)) (blkOk_by (own := [("_law_k", 2)]) (by kernel_rfl)) (fun _ _ _ _ _ => (xgo_name 2 sc_law.nd)) (fun _ _ _ _ _ => xts_nil) (fun _ _ _ _ _ => (xe_callNew (ok_law_right tx) (hr.mono (by decide)) tx.g_law_right tx.F_law_right.kp (b_law_right tx) takes0 (xf_call (ok_law_box tx) (hr.mono (by decide)) tx.g_law_box tx.F_law_box.kp (b_law_box tx) takes0 runL_len (xa_cons (xe_name 1) (xa_cons (xe_name 2) xa_nil))))))) xa_nil))))))
end
/-! ### the end -/
def mkTx {K : PySem.W.Frag} {h : Heap} {mg : Str → Option Value} (X : K.In h) (G : h.Ns mainGlobals mg)
    {f_set_of : Addr} {od_set_of an_set_of : Option Addr} {sl_set_of : Array (Option Value)} {oc_set_of kV_set_of dc_set_of pm_set_of cd_set_of ct_set_of : Value}
    {f_list_exchanged : Addr} {od_list_exchanged an_list_exchanged : Option Addr} {sl_list_exchanged : Array (Option Value)} {oc_list_exchanged kV_list_exchanged dc_list_exchanged pm_list_exchanged cd_list_exchanged ct_list_exchanged : Value}
    {f_thing_put : Addr} {od_thing_put an_thing_put : Option Addr} {sl_thing_put : Array (Option Value)} {oc_thing_put kV_thing_put dc_thing_put pm_thing_put cd_thing_put ct_thing_put : Value}
    {f_thing_left_out : Addr} {od_thing_left_out an_thing_left_out : Option Addr} {sl_thing_left_out : Array (Option Value)} {oc_thing_left_out kV_thing_left_out dc_thing_left_out pm_thing_left_out cd_thing_left_out ct_thing_left_out : Value}
    {f_share_change : Addr} {od_share_change an_share_change : Option Addr} {sl_share_change : Array (Option Value)} {oc_share_change kV_share_change dc_share_change pm_share_change cd_share_change ct_share_change : Value}
    {f_law_box : Addr} {od_law_box an_law_box : Option Addr} {sl_law_box : Array (Option Value)} {oc_law_box kV_law_box dc_law_box pm_law_box cd_law_box ct_law_box : Value}
    {f_law_take : Addr} {od_law_take an_law_take : Option Addr} {sl_law_take : Array (Option Value)} {oc_law_take kV_law_take dc_law_take pm_law_take cd_law_take ct_law_take : Value}
    {f_law_cells : Addr} {od_law_cells an_law_cells : Option Addr} {sl_law_cells : Array (Option Value)} {oc_law_cells kV_law_cells dc_law_cells pm_law_cells cd_law_cells ct_law_cells : Value}
    {f_law_of : Addr} {od_law_of an_law_of : Option Addr} {sl_law_of : Array (Option Value)} {oc_law_of kV_law_of dc_law_of pm_law_of cd_law_of ct_law_of : Value}
    {f_law_same : Addr} {od_law_same an_law_same : Option Addr} {sl_law_same : Array (Option Value)} {oc_law_same kV_law_same dc_law_same pm_law_same cd_law_same ct_law_same : Value}
    {f_law_pick : Addr} {od_law_pick an_law_pick : Option Addr} {sl_law_pick : Array (Option Value)} {oc_law_pick kV_law_pick dc_law_pick pm_law_pick cd_law_pick ct_law_pick : Value}
    {f_law_likes : Addr} {od_law_likes an_law_likes : Option Addr} {sl_law_likes : Array (Option Value)} {oc_law_likes kV_law_likes dc_law_likes pm_law_likes cd_law_likes ct_law_likes : Value}
    {f_law_heard : Addr} {od_law_heard an_law_heard : Option Addr} {sl_law_heard : Array (Option Value)} {oc_law_heard kV_law_heard dc_law_heard pm_law_heard cd_law_heard ct_law_heard : Value}
    {f_law_due : Addr} {od_law_due an_law_due : Option Addr} {sl_law_due : Array (Option Value)} {oc_law_due kV_law_due dc_law_due pm_law_due cd_law_due ct_law_due : Value}
    {f_law_shares_right : Addr} {od_law_shares_right an_law_shares_right : Option Addr} {sl_law_shares_right : Array (Option Value)} {oc_law_shares_right kV_law_shares_right dc_law_shares_right pm_law_shares_right cd_law_shares_right ct_law_shares_right : Value}
    {f_law_by_hand_right : Addr} {od_law_by_hand_right an_law_by_hand_right : Option Addr} {sl_law_by_hand_right : Array (Option Value)} {oc_law_by_hand_right kV_law_by_hand_right dc_law_by_hand_right pm_law_by_hand_right cd_law_by_hand_right ct_law_by_hand_right : Value}
    {f_law_right : Addr} {od_law_right an_law_right : Option Addr} {sl_law_right : Array (Option Value)} {oc_law_right kV_law_right dc_law_right pm_law_right cd_law_right ct_law_right : Value}
    {f_law : Addr} {od_law an_law : Option Addr} {sl_law : Array (Option Value)} {oc_law kV_law dc_law pm_law cd_law ct_law : Value}
    {C_NoThing fI_NoThing : Addr} {nm_NoThing q_NoThing : Str} {N_NoThing : Addr} {bs_NoThing : List Value} {B_NoThing : Addr} {sn_NoThing : List Str} {sub_NoThing : List Value} {ab_NoThing : Bool} {col_NoThing : Option Bool} {dd_NoThing : Option Addr} {k0_NoThing k1_NoThing k2_NoThing k3_NoThing k5_NoThing : Option Value}
    {odI_NoThing anI_NoThing : Option Addr} {slI_NoThing : Array (Option Value)} {ocI_NoThing kVI_NoThing dcI_NoThing pmI_NoThing cdI_NoThing ctI_NoThing : Value}
    {C_NoPlace fI_NoPlace : Addr} {nm_NoPlace q_NoPlace : Str} {N_NoPlace : Addr} {bs_NoPlace : List Value} {B_NoPlace : Addr} {sn_NoPlace : List Str} {sub_NoPlace : List Value} {ab_NoPlace : Bool} {col_NoPlace : Option Bool} {dd_NoPlace : Option Addr} {k0_NoPlace k1_NoPlace k2_NoPlace k3_NoPlace k5_NoPlace : Option Value}
    {odI_NoPlace anI_NoPlace : Option Addr} {slI_NoPlace : Array (Option Value)} {ocI_NoPlace kVI_NoPlace dcI_NoPlace pmI_NoPlace cdI_NoPlace ctI_NoPlace : Value}
    {C_Known fI_Known : Addr} {nm_Known q_Known : Str} {N_Known : Addr} {bs_Known : List Value} {B_Known : Addr} {sn_Known : List Str} {sub_Known : List Value} {ab_Known : Bool} {col_Known : Option Bool} {dd_Known : Option Addr} {k0_Known k1_Known k2_Known k3_Known k5_Known : Option Value}
    {odI_Known anI_Known : Option Addr} {slI_Known : Array (Option Value)} {ocI_Known kVI_Known dcI_Known pmI_Known cdI_Known ctI_Known : Value}
    (a_set_of : PySem.W.nsIn K mainGlobals "set_of" = some (some (.ref f_set_of)))
    (l_set_of : K.lookup f_set_of = some ⟨oc_set_of, od_set_of, .func (PySem.W.fnOf "set_of" "set_of" (defArgs s_set_of) (defBody s_set_of) (defScope s_set_of) .none kV_set_of dc_set_of pm_set_of an_set_of cd_set_of ct_set_of), sl_set_of⟩)
    (c_set_of : PySem.W.codeIn K cd_set_of "set_of" = true)
    (k_set_of : PySem.W.keepIn K (.ref f_set_of) = true)
    (a_list_exchanged : PySem.W.nsIn K mainGlobals "list_exchanged" = some (some (.ref f_list_exchanged)))
    (l_list_exchanged : K.lookup f_list_exchanged = some ⟨oc_list_exchanged, od_list_exchanged, .func (PySem.W.fnOf "list_exchanged" "list_exchanged" (defArgs s_list_exchanged) (defBody s_list_exchanged) (defScope s_list_exchanged) .none kV_list_exchanged dc_list_exchanged pm_list_exchanged an_list_exchanged cd_list_exchanged ct_list_exchanged), sl_list_exchanged⟩)
    (c_list_exchanged : PySem.W.codeIn K cd_list_exchanged "list_exchanged" = true)
    (k_list_exchanged : PySem.W.keepIn K (.ref f_list_exchanged) = true)
    (a_thing_put : PySem.W.nsIn K mainGlobals "thing_put" = some (some (.ref f_thing_put)))
    (l_thing_put : K.lookup f_thing_put = some ⟨oc_thing_put, od_thing_put, .func (PySem.W.fnOf "thing_put" "thing_put" (defArgs s_thing_put) (defBody s_thing_put) (defScope s_thing_put) .none kV_thing_put dc_thing_put pm_thing_put an_thing_put cd_thing_put ct_thing_put), sl_thing_put⟩)
    (c_thing_put : PySem.W.codeIn K cd_thing_put "thing_put" = true)
    (k_thing_put : PySem.W.keepIn K (.ref f_thing_put) = true)
    (a_thing_left_out : PySem.W.nsIn K mainGlobals "thing_left_out" = some (some (.ref f_thing_left_out)))
    (l_thing_left_out : K.lookup f_thing_left_out = some ⟨oc_thing_left_out, od_thing_left_out, .func (PySem.W.fnOf "thing_left_out" "thing_left_out" (defArgs s_thing_left_out) (defBody s_thing_left_out) (defScope s_thing_left_out) .none kV_thing_left_out dc_thing_left_out pm_thing_left_out an_thing_left_out cd_thing_left_out ct_thing_left_out), sl_thing_left_out⟩)
    (c_thing_left_out : PySem.W.codeIn K cd_thing_left_out "thing_left_out" = true)
    (k_thing_left_out : PySem.W.keepIn K (.ref f_thing_left_out) = true)
    (a_share_change : PySem.W.nsIn K mainGlobals "share_change" = some (some (.ref f_share_change)))
    (l_share_change : K.lookup f_share_change = some ⟨oc_share_change, od_share_change, .func (PySem.W.fnOf "share_change" "share_change" (defArgs s_share_change) (defBody s_share_change) (defScope s_share_change) .none kV_share_change dc_share_change pm_share_change an_share_change cd_share_change ct_share_change), sl_share_change⟩)
    (c_share_change : PySem.W.codeIn K cd_share_change "share_change" = true)
    (k_share_change : PySem.W.keepIn K (.ref f_share_change) = true)
    (a_law_box : PySem.W.nsIn K mainGlobals "_law_box" = some (some (.ref f_law_box)))
    (l_law_box : K.lookup f_law_box = some ⟨oc_law_box, od_law_box, .func (PySem.W.fnOf "_law_box" "_law_box" (defArgs s_law_box) (defBody s_law_box) (defScope s_law_box) .none kV_law_box dc_law_box pm_law_box an_law_box cd_law_box ct_law_box), sl_law_box⟩)
    (c_law_box : PySem.W.codeIn K cd_law_box "_law_box" = true)
    (k_law_box : PySem.W.keepIn K (.ref f_law_box) = true)
    (a_law_take : PySem.W.nsIn K mainGlobals "_law_take" = some (some (.ref f_law_take)))
    (l_law_take : K.lookup f_law_take = some ⟨oc_law_take, od_law_take, .func (PySem.W.fnOf "_law_take" "_law_take" (defArgs s_law_take) (defBody s_law_take) (defScope s_law_take) .none kV_law_take dc_law_take pm_law_take an_law_take cd_law_take ct_law_take), sl_law_take⟩)
    (c_law_take : PySem.W.codeIn K cd_law_take "_law_take" = true)
    (k_law_take : PySem.W.keepIn K (.ref f_law_take) = true)
    (a_law_cells : PySem.W.nsIn K mainGlobals "_law_cells" = some (some (.ref f_law_cells)))
    (l_law_cells : K.lookup f_law_cells = some ⟨oc_law_cells, od_law_cells, .func (PySem.W.fnOf "_law_cells" "_law_cells" (defArgs s_law_cells) (defBody s_law_cells) (defScope s_law_cells) .none kV_law_cells dc_law_cells pm_law_cells an_law_cells cd_law_cells ct_law_cells), sl_law_cells⟩)
    (c_law_cells : PySem.W.codeIn K cd_law_cells "_law_cells" = true)
    (k_law_cells : PySem.W.keepIn K (.ref f_law_cells) = true)
    (a_law_of : PySem.W.nsIn K mainGlobals "_law_of" = some (some (.ref f_law_of)))
    (l_law_of : K.lookup f_law_of = some ⟨oc_law_of, od_law_of, .func (PySem.W.fnOf "_law_of" "_law_of" (defArgs s_law_of) (defBody s_law_of) (defScope s_law_of) .none kV_law_of dc_law_of pm_law_of an_law_of cd_law_of ct_law_of), sl_law_of⟩)
    (c_law_of : PySem.W.codeIn K cd_law_of "_law_of" = true)
    (k_law_of : PySem.W.keepIn K (.ref f_law_of) = true)
    (a_law_same : PySem.W.nsIn K mainGlobals "_law_same" = some (some (.ref f_law_same)))
    (l_law_same : K.lookup f_law_same = some ⟨oc_law_same, od_law_same, .func (PySem.W.fnOf "_law_same" "_law_same" (defArgs s_law_same) (defBody s_law_same) (defScope s_law_same) .none kV_law_same dc_law_same pm_law_same an_law_same cd_law_same ct_law_same), sl_law_same⟩)
    (c_law_same : PySem.W.codeIn K cd_law_same "_law_same" = true)
    (k_law_same : PySem.W.keepIn K (.ref f_law_same) = true)
    (a_law_pick : PySem.W.nsIn K mainGlobals "_law_pick" = some (some (.ref f_law_pick)))
    (l_law_pick : K.lookup f_law_pick = some ⟨oc_law_pick, od_law_pick, .func (PySem.W.fnOf "_law_pick" "_law_pick" (defArgs s_law_pick) (defBody s_law_pick) (defScope s_law_pick) .none kV_law_pick dc_law_pick pm_law_pick an_law_pick cd_law_pick ct_law_pick), sl_law_pick⟩)
    (c_law_pick : PySem.W.codeIn K cd_law_pick "_law_pick" = true)
    (k_law_pick : PySem.W.keepIn K (.ref f_law_pick) = true)
    (a_law_likes : PySem.W.nsIn K mainGlobals "_law_likes" = some (some (.ref f_law_likes)))
    (l_law_likes : K.lookup f_law_likes = some ⟨oc_law_likes, od_law_likes, .func (PySem.W.fnOf "_law_likes" "_law_likes" (defArgs s_law_likes) (defBody s_law_likes) (defScope s_law_likes) .none kV_law_likes dc_law_likes pm_law_likes an_law_likes cd_law_likes ct_law_likes), sl_law_likes⟩)
    (c_law_likes : PySem.W.codeIn K cd_law_likes "_law_likes" = true)
    (k_law_likes : PySem.W.keepIn K (.ref f_law_likes) = true)
    (a_law_heard : PySem.W.nsIn K mainGlobals "_law_heard" = some (some (.ref f_law_heard)))
    (l_law_heard : K.lookup f_law_heard = some ⟨oc_law_heard, od_law_heard, .func (PySem.W.fnOf "_law_heard" "_law_heard" (defArgs s_law_heard) (defBody s_law_heard) (defScope s_law_heard) .none kV_law_heard dc_law_heard pm_law_heard an_law_heard cd_law_heard ct_law_heard), sl_law_heard⟩)
    (c_law_heard : PySem.W.codeIn K cd_law_heard "_law_heard" = true)
    (k_law_heard : PySem.W.keepIn K (.ref f_law_heard) = true)
    (a_law_due : PySem.W.nsIn K mainGlobals "_law_due" = some (some (.ref f_law_due)))
    (l_law_due : K.lookup f_law_due = some ⟨oc_law_due, od_law_due, .func (PySem.W.fnOf "_law_due" "_law_due" (defArgs s_law_due) (defBody s_law_due) (defScope s_law_due) .none kV_law_due dc_law_due pm_law_due an_law_due cd_law_due ct_law_due), sl_law_due⟩)
    (c_law_due : PySem.W.codeIn K cd_law_due "_law_due" = true)
    (k_law_due : PySem.W.keepIn K (.ref f_law_due) = true)
    (a_law_shares_right : PySem.W.nsIn K mainGlobals "_law_shares_right" = some (some (.ref f_law_shares_right)))
    (l_law_shares_right : K.lookup f_law_shares_right = some ⟨oc_law_shares_right, od_law_shares_right, .func (PySem.W.fnOf "_law_shares_right" "_law_shares_right" (defArgs s_law_shares_right) (defBody s_law_shares_right) (defScope s_law_shares_right) .none kV_law_shares_right dc_law_shares_right pm_law_shares_right an_law_shares_right cd_law_shares_right ct_law_shares_right), sl_law_shares_right⟩)
    (c_law_shares_right : PySem.W.codeIn K cd_law_shares_right "_law_shares_right" = true)
    (k_law_shares_right : PySem.W.keepIn K (.ref f_law_shares_right) = true)
    (a_law_by_hand_right : PySem.W.nsIn K mainGlobals "_law_by_hand_right" = some (some (.ref f_law_by_hand_right)))
    (l_law_by_hand_right : K.lookup f_law_by_hand_right = some ⟨oc_law_by_hand_right, od_law_by_hand_right, .func (PySem.W.fnOf "_law_by_hand_right" "_law_by_hand_right" (defArgs s_law_by_hand_right) (defBody s_law_by_hand_right) (defScope s_law_by_hand_right) .none kV_law_by_hand_right dc_law_by_hand_right pm_law_by_hand_right an_law_by_hand_right cd_law_by_hand_right ct_law_by_hand_right), sl_law_by_hand_right⟩)
    (c_law_by_hand_right : PySem.W.codeIn K cd_law_by_hand_right "_law_by_hand_right" = true)
    (k_law_by_hand_right : PySem.W.keepIn K (.ref f_law_by_hand_right) = true)
    (a_law_right : PySem.W.nsIn K mainGlobals "_law_right" = some (some (.ref f_law_right)))
    (l_law_right : K.lookup f_law_right = some ⟨oc_law_right, od_law_right, .func (PySem.W.fnOf "_law_right" "_law_right" (defArgs s_law_right) (defBody s_law_right) (defScope s_law_right) .none kV_law_right dc_law_right pm_law_right an_law_right cd_law_right ct_law_right), sl_law_right⟩)
    (c_law_right : PySem.W.codeIn K cd_law_right "_law_right" = true)
    (k_law_right : PySem.W.keepIn K (.ref f_law_right) = true)
    (a_law : PySem.W.nsIn K mainGlobals "law" = some (some (.ref f_law)))
    (l_law : K.lookup f_law = some ⟨oc_law, od_law, .func (PySem.W.fnOf "law" "law" (defArgs s_law) (defBody s_law) (defScope s_law) .none kV_law dc_law pm_law an_law cd_law ct_law), sl_law⟩)
    (c_law : PySem.W.codeIn K cd_law "law" = true)
    (k_law : PySem.W.keepIn K (.ref f_law) = true)
    (eg_NoThing : PySem.W.nsIn K mainGlobals "NoThing" = some (some (.ref C_NoThing)))
    (el_NoThing : K.lookup C_NoThing = some (excClassObj nm_NoThing q_NoThing C_NoThing N_NoThing bs_NoThing [.ref B_NoThing, .type "ValueError", .type "Exception", .type "BaseException", .type "object"] true sn_NoThing sub_NoThing ab_NoThing col_NoThing dd_NoThing k0_NoThing k1_NoThing k2_NoThing k3_NoThing k5_NoThing "ValueError.__new__"))
    (esa_NoThing : PySem.W.findIn K (.ref C_NoThing) "__setattr__" = some (some (.builtin "object.__setattr__")))
    (eex_NoThing : PySem.W.subIn K (.ref C_NoThing) (.type "BaseException") = some true)
    (ety_NoThing : PySem.W.typeIn K (.ref C_NoThing) = some (.type "type"))
    (ek_NoThing : PySem.W.keepIn K (.ref C_NoThing) = true)
    (ei_NoThing : PySem.W.findIn K (.ref C_NoThing) "__init__" = some (some (.ref fI_NoThing)))
    (eti_NoThing : PySem.W.typeIn K (.ref fI_NoThing) = some (.type "function"))
    (eno_NoThing : PySem.W.findIn K (.ref C_NoThing) "name" = some none)
    (ega_NoThing : PySem.W.findIn K (.ref C_NoThing) "__getattribute__" = some (some (.builtin "BaseException.__getattribute__")))
    (egg_NoThing : PySem.W.findIn K (.ref C_NoThing) "__getattr__" = some none)
    (ehd_NoThing : PySem.W.hasDictIn K C_NoThing = true)
    (eli_NoThing : K.lookup fI_NoThing = some ⟨ocI_NoThing, odI_NoThing, .func (PySem.W.fnOf "__init__" "NoThing.__init__" (defArgs si_NoThing) (defBody si_NoThing) (defScope si_NoThing) .none kVI_NoThing dcI_NoThing pmI_NoThing anI_NoThing cdI_NoThing ctI_NoThing), slI_NoThing⟩)
    (eci_NoThing : PySem.W.codeIn K cdI_NoThing "NoThing.__init__" = true)
    (eki_NoThing : PySem.W.keepIn K (.ref fI_NoThing) = true)
    (eg_NoPlace : PySem.W.nsIn K mainGlobals "NoPlace" = some (some (.ref C_NoPlace)))
    (el_NoPlace : K.lookup C_NoPlace = some (excClassObj nm_NoPlace q_NoPlace C_NoPlace N_NoPlace bs_NoPlace [.ref B_NoPlace, .type "ValueError", .type "Exception", .type "BaseException", .type "object"] true sn_NoPlace sub_NoPlace ab_NoPlace col_NoPlace dd_NoPlace k0_NoPlace k1_NoPlace k2_NoPlace k3_NoPlace k5_NoPlace "ValueError.__new__"))
    (esa_NoPlace : PySem.W.findIn K (.ref C_NoPlace) "__setattr__" = some (some (.builtin "object.__setattr__")))
    (eex_NoPlace : PySem.W.subIn K (.ref C_NoPlace) (.type "BaseException") = some true)
    (ety_NoPlace : PySem.W.typeIn K (.ref C_NoPlace) = some (.type "type"))
    (ek_NoPlace : PySem.W.keepIn K (.ref C_NoPlace) = true)
    (ei_NoPlace : PySem.W.findIn K (.ref C_NoPlace) "__init__" = some (some (.ref fI_NoPlace)))
    (eti_NoPlace : PySem.W.typeIn K (.ref fI_NoPlace) = some (.type "function"))
    (eno_NoPlace : PySem.W.findIn K (.ref C_NoPlace) "number" = some none)
    (ega_NoPlace : PySem.W.findIn K (.ref C_NoPlace) "__getattribute__" = some (some (.builtin "BaseException.__getattribute__")))
    (egg_NoPlace : PySem.W.findIn K (.ref C_NoPlace) "__getattr__" = some none)
    (ehd_NoPlace : PySem.W.hasDictIn K C_NoPlace = true)
    (eli_NoPlace : K.lookup fI_NoPlace = some ⟨ocI_NoPlace, odI_NoPlace, .func (PySem.W.fnOf "__init__" "NoPlace.__init__" (defArgs si_NoPlace) (defBody si_NoPlace) (defScope si_NoPlace) .none kVI_NoPlace dcI_NoPlace pmI_NoPlace anI_NoPlace cdI_NoPlace ctI_NoPlace), slI_NoPlace⟩)
    (eci_NoPlace : PySem.W.codeIn K cdI_NoPlace "NoPlace.__init__" = true)
    (eki_NoPlace : PySem.W.keepIn K (.ref fI_NoPlace) = true)
    (eg_Known : PySem.W.nsIn K mainGlobals "Known" = some (some (.ref C_Known)))
    (el_Known : K.lookup C_Known = some (excClassObj nm_Known q_Known C_Known N_Known bs_Known [.ref B_Known, .type "ValueError", .type "Exception", .type "BaseException", .type "object"] true sn_Known sub_Known ab_Known col_Known dd_Known k0_Known k1_Known k2_Known k3_Known k5_Known "ValueError.__new__"))
    (esa_Known : PySem.W.findIn K (.ref C_Known) "__setattr__" = some (some (.builtin "object.__setattr__")))
    (eex_Known : PySem.W.subIn K (.ref C_Known) (.type "BaseException") = some true)
    (ety_Known : PySem.W.typeIn K (.ref C_Known) = some (.type "type"))
    (ek_Known : PySem.W.keepIn K (.ref C_Known) = true)
    (ei_Known : PySem.W.findIn K (.ref C_Known) "__init__" = some (some (.ref fI_Known)))
    (eti_Known : PySem.W.typeIn K (.ref fI_Known) = some (.type "function"))
    (eno_Known : PySem.W.findIn K (.ref C_Known) "name" = some none)
    (ega_Known : PySem.W.findIn K (.ref C_Known) "__getattribute__" = some (some (.builtin "BaseException.__getattribute__")))
    (egg_Known : PySem.W.findIn K (.ref C_Known) "__getattr__" = some none)
    (ehd_Known : PySem.W.hasDictIn K C_Known = true)
    (eli_Known : K.lookup fI_Known = some ⟨ocI_Known, odI_Known, .func (PySem.W.fnOf "__init__" "Known.__init__" (defArgs si_Known) (defBody si_Known) (defScope si_Known) .none kVI_Known dcI_Known pmI_Known anI_Known cdI_Known ctI_Known), slI_Known⟩)
    (eci_Known : PySem.W.codeIn K cdI_Known "Known.__init__" = true)
    (eki_Known : PySem.W.keepIn K (.ref fI_Known) = true)
    (ka_NoThing : PySem.W.findIn K (.ref C_NoThing) "__class__" = some (some (.builtin "object.__class__")))
    (km_NoThing : PySem.W.mroIn K C_NoThing (.type "object") = some true)
    (ka_NoPlace : PySem.W.findIn K (.ref C_NoPlace) "__class__" = some (some (.builtin "object.__class__")))
    (km_NoPlace : PySem.W.mroIn K C_NoPlace (.type "object") = some true)
    (ka_Known : PySem.W.findIn K (.ref C_Known) "__class__" = some (some (.builtin "object.__class__")))
    (km_Known : PySem.W.mroIn K C_Known (.type "object") = some true)
    (kn : PySem.W.specialIn K (.builtin "object.__class__") "__get__" = some (some (.builtin "getset_descriptor.__get__")))
    (kt : PySem.W.takesIn K (.builtin "object.__class__") = some true)
    (su_NoPlace_NoPlace : PySem.W.subIn K (.ref C_NoPlace) (.ref C_NoPlace) = some true)
    (su_NoThing_NoPlace : PySem.W.subIn K (.ref C_NoThing) (.ref C_NoPlace) = some false)
    (su_Known_NoPlace : PySem.W.subIn K (.ref C_Known) (.ref C_NoPlace) = some false)
    (ki_NoThing_ValueError : PySem.W.subIn K (.ref C_NoThing) (.type "ValueError") = some true)
    (ki_NoPlace_ValueError : PySem.W.subIn K (.ref C_NoPlace) (.type "ValueError") = some true)
    (ki_Known_ValueError : PySem.W.subIn K (.ref C_Known) (.type "ValueError") = some true)
    (su_Known_Known : PySem.W.subIn K (.ref C_Known) (.ref C_Known) = some true)
    (su_NoThing_Known : PySem.W.subIn K (.ref C_NoThing) (.ref C_Known) = some false)
    (su_NoPlace_Known : PySem.W.subIn K (.ref C_NoPlace) (.ref C_Known) = some false)
    (su_NoThing_NoThing : PySem.W.subIn K (.ref C_NoThing) (.ref C_NoThing) = some true)
    (su_NoPlace_NoThing : PySem.W.subIn K (.ref C_NoPlace) (.ref C_NoThing) = some false)
    (su_Known_NoThing : PySem.W.subIn K (.ref C_Known) (.ref C_NoThing) = some false)
    (z_ValueError : PySem.W.nsIn K mainGlobals "ValueError" = some none)
    (z_abs : PySem.W.nsIn K mainGlobals "abs" = some none)
    (z_all : PySem.W.nsIn K mainGlobals "all" = some none)
    (z_bool : PySem.W.nsIn K mainGlobals "bool" = some none)
    (z_enumerate : PySem.W.nsIn K mainGlobals "enumerate" = some none)
    (z_int : PySem.W.nsIn K mainGlobals "int" = some none)
    (z_isinstance : PySem.W.nsIn K mainGlobals "isinstance" = some none)
    (z_len : PySem.W.nsIn K mainGlobals "len" = some none)
    (z_list : PySem.W.nsIn K mainGlobals "list" = some none)
    (z_min : PySem.W.nsIn K mainGlobals "min" = some none)
    (z_range : PySem.W.nsIn K mainGlobals "range" = some none)
    (z_set : PySem.W.nsIn K mainGlobals "set" = some none)
    (z_sorted : PySem.W.nsIn K mainGlobals "sorted" = some none)
    (z_str : PySem.W.nsIn K mainGlobals "str" = some none)
    (z_tuple : PySem.W.nsIn K mainGlobals "tuple" = some none)
    (z_zip : PySem.W.nsIn K mainGlobals "zip" = some none) : Tx K mg (tbT [(3, C_NoThing), (4, C_NoPlace), (9, C_Known)]) :=
  { a_set_of := f_set_of, d_set_of := _, F_set_of := fun_mk l_set_of c_set_of k_set_of, g_set_of := PySem.W.mg_of X G a_set_of,
    a_list_exchanged := f_list_exchanged, d_list_exchanged := _, F_list_exchanged := fun_mk l_list_exchanged c_list_exchanged k_list_exchanged, g_list_exchanged := PySem.W.mg_of X G a_list_exchanged,
    a_thing_put := f_thing_put, d_thing_put := _, F_thing_put := fun_mk l_thing_put c_thing_put k_thing_put, g_thing_put := PySem.W.mg_of X G a_thing_put,
    a_thing_left_out := f_thing_left_out, d_thing_left_out := _, F_thing_left_out := fun_mk l_thing_left_out c_thing_left_out k_thing_left_out, g_thing_left_out := PySem.W.mg_of X G a_thing_left_out,
    a_share_change := f_share_change, d_share_change := _, F_share_change := fun_mk l_share_change c_share_change k_share_change, g_share_change := PySem.W.mg_of X G a_share_change,
    a_law_box := f_law_box, d_law_box := _, F_law_box := fun_mk l_law_box c_law_box k_law_box, g_law_box := PySem.W.mg_of X G a_law_box,
    a_law_take := f_law_take, d_law_take := _, F_law_take := fun_mk l_law_take c_law_take k_law_take, g_law_take := PySem.W.mg_of X G a_law_take,
    a_law_cells := f_law_cells, d_law_cells := _, F_law_cells := fun_mk l_law_cells c_law_cells k_law_cells, g_law_cells := PySem.W.mg_of X G a_law_cells,
    a_law_of := f_law_of, d_law_of := _, F_law_of := fun_mk l_law_of c_law_of k_law_of, g_law_of := PySem.W.mg_of X G a_law_of,
    a_law_same := f_law_same, d_law_same := _, F_law_same := fun_mk l_law_same c_law_same k_law_same, g_law_same := PySem.W.mg_of X G a_law_same,
    a_law_pick := f_law_pick, d_law_pick := _, F_law_pick := fun_mk l_law_pick c_law_pick k_law_pick, g_law_pick := PySem.W.mg_of X G a_law_pick,
    a_law_likes := f_law_likes, d_law_likes := _, F_law_likes := fun_mk l_law_likes c_law_likes k_law_likes, g_law_likes := PySem.W.mg_of X G a_law_likes,
    a_law_heard := f_law_heard, d_law_heard := _, F_law_heard := fun_mk l_law_heard c_law_heard k_law_heard, g_law_heard := PySem.W.mg_of X G a_law_heard,
    a_law_due := f_law_due, d_law_due := _, F_law_due := fun_mk l_law_due c_law_due k_law_due, g_law_due := PySem.W.mg_of X G a_law_due,
    a_law_shares_right := f_law_shares_right, d_law_shares_right := _, F_law_shares_right := fun_mk l_law_shares_right c_law_shares_right k_law_shares_right, g_law_shares_right := PySem.W.mg_of X G a_law_shares_right,
    a_law_by_hand_right := f_law_by_hand_right, d_law_by_hand_right := _, F_law_by_hand_right := fun_mk l_law_by_hand_right c_law_by_hand_right k_law_by_hand_right, g_law_by_hand_right := PySem.W.mg_of X G a_law_by_hand_right,
    a_law_right := f_law_right, d_law_right := _, F_law_right := fun_mk l_law_right c_law_right k_law_right, g_law_right := PySem.W.mg_of X G a_law_right,
    a_law := f_law, d_law := _, F_law := fun_mk l_law c_law k_law, g_law := PySem.W.mg_of X G a_law,
    fI_NoThing := fI_NoThing, fd_NoThing := _, E_NoThing := ⟨PySem.W.mg_of X G eg_NoThing, ⟨⟨_, _, _, _, _, _, _, _, _, _, _, _, _, _, _, el_NoThing, rfl⟩, esa_NoThing, eex_NoThing, ety_NoThing, ek_NoThing⟩, ei_NoThing, eti_NoThing, eno_NoThing, ega_NoThing, egg_NoThing, ehd_NoThing⟩, FI_NoThing := fun_mk eli_NoThing eci_NoThing eki_NoThing,
    fI_NoPlace := fI_NoPlace, fd_NoPlace := _, E_NoPlace := ⟨PySem.W.mg_of X G eg_NoPlace, ⟨⟨_, _, _, _, _, _, _, _, _, _, _, _, _, _, _, el_NoPlace, rfl⟩, esa_NoPlace, eex_NoPlace, ety_NoPlace, ek_NoPlace⟩, ei_NoPlace, eti_NoPlace, eno_NoPlace, ega_NoPlace, egg_NoPlace, ehd_NoPlace⟩, FI_NoPlace := fun_mk eli_NoPlace eci_NoPlace eki_NoPlace,
    fI_Known := fI_Known, fd_Known := _, E_Known := ⟨PySem.W.mg_of X G eg_Known, ⟨⟨_, _, _, _, _, _, _, _, _, _, _, _, _, _, _, el_Known, rfl⟩, esa_Known, eex_Known, ety_Known, ek_Known⟩, ei_Known, eti_Known, eno_Known, ega_Known, egg_Known, ehd_Known⟩, FI_Known := fun_mk eli_Known eci_Known eki_Known,
    ec_NoThing := ⟨ega_NoThing, egg_NoThing, eex_NoThing, ehd_NoThing, ka_NoThing, kn, kt, km_NoThing⟩,
    ec_NoPlace := ⟨ega_NoPlace, egg_NoPlace, eex_NoPlace, ehd_NoPlace, ka_NoPlace, kn, kt, km_NoPlace⟩,
    ec_Known := ⟨ega_Known, egg_Known, eex_Known, ehd_Known, ka_Known, kn, kt, km_Known⟩,
    ki_NoThing_NoPlace := kit_ref2 ehd_NoPlace ety_NoPlace su_NoPlace_NoPlace su_NoThing_NoPlace,
    ki_NoPlace_NoPlace := kit_ref2 ehd_NoPlace ety_NoPlace su_NoPlace_NoPlace su_NoPlace_NoPlace,
    ki_Known_NoPlace := kit_ref2 ehd_NoPlace ety_NoPlace su_NoPlace_NoPlace su_Known_NoPlace,
    ki_NoThing_ValueError := kit_ty (by decide +kernel) ki_NoThing_ValueError,
    ki_NoPlace_ValueError := kit_ty (by decide +kernel) ki_NoPlace_ValueError,
    ki_Known_ValueError := kit_ty (by decide +kernel) ki_Known_ValueError,
    ki_NoThing_Known := kit_ref2 ehd_Known ety_Known su_Known_Known su_NoThing_Known,
    ki_NoPlace_Known := kit_ref2 ehd_Known ety_Known su_Known_Known su_NoPlace_Known,
    ki_Known_Known := kit_ref2 ehd_Known ety_Known su_Known_Known su_Known_Known,
    ex_NoThing_Known := PySem.W.exm_ref eex_Known ehd_Known ety_Known su_NoThing_Known,
    ex_NoPlace_Known := PySem.W.exm_ref eex_Known ehd_Known ety_Known su_NoPlace_Known,
    ex_Known_Known := PySem.W.exm_ref eex_Known ehd_Known ety_Known su_Known_Known,
    ex_NoThing_NoPlace := PySem.W.exm_ref eex_NoPlace ehd_NoPlace ety_NoPlace su_NoThing_NoPlace,
    ex_NoPlace_NoPlace := PySem.W.exm_ref eex_NoPlace ehd_NoPlace ety_NoPlace su_NoPlace_NoPlace,
    ex_Known_NoPlace := PySem.W.exm_ref eex_NoPlace ehd_NoPlace ety_NoPlace su_Known_NoPlace,
    ex_NoThing_NoThing := PySem.W.exm_ref eex_NoThing ehd_NoThing ety_NoThing su_NoThing_NoThing,
    ex_NoPlace_NoThing := PySem.W.exm_ref eex_NoThing ehd_NoThing ety_NoThing su_NoPlace_NoThing,
    ex_Known_NoThing := PySem.W.exm_ref eex_NoThing ehd_NoThing ety_NoThing su_Known_NoThing,
    z_ValueError := PySem.W.mg_none_of X G z_ValueError,
    z_abs := PySem.W.mg_none_of X G z_abs,
    z_all := PySem.W.mg_none_of X G z_all,
    z_bool := PySem.W.mg_none_of X G z_bool,
    z_enumerate := PySem.W.mg_none_of X G z_enumerate,
    z_int := PySem.W.mg_none_of X G z_int,
    z_isinstance := PySem.W.mg_none_of X G z_isinstance,
    z_len := PySem.W.mg_none_of X G z_len,
    z_list := PySem.W.mg_none_of X G z_list,
    z_min := PySem.W.mg_none_of X G z_min,
    z_range := PySem.W.mg_none_of X G z_range,
    z_set := PySem.W.mg_none_of X G z_set,
    z_sorted := PySem.W.mg_none_of X G z_sorted,
    z_str := PySem.W.mg_none_of X G z_str,
    z_tuple := PySem.W.mg_none_of X G z_tuple,
    z_zip := PySem.W.mg_none_of X G z_zip }
theorem fin {P : Program} {w : World} {K : PySem.W.Frag} {mg : Str → Option Value} {T : Tb} {fa : Addr} (tx : Tx K mg T) (hfa : mg "law" = some (.ref fa)) :
    ∃ fd : FuncData, (∀ (s : Shared) (v : Value), BindsTo s fd ⟨[v], []⟩ [("_law_script", v)]) ∧ ∀ base : Heap, K.In base → base.Ns mainGlobals mg → FnOk P w K mg base (L2.CX P w) 12 fa fd ["_law_script"] (spA K 1 f_law) := by
  have e := hfa.symm.trans tx.g_law
  cases e
  refine ⟨tx.d_law, fun s v => ?_, fun base _ _ => (ok_law tx).imp fun _ _ _ _ q => q T⟩
  obtain ⟨oc, od, kV, doc, pm, an, cdv, ct, osl, e, lk, hcd⟩ := tx.F_law.ex
  rw [e]
  exact .of_eq rfl
end Lw
namespace Lw
open PySem Lq
local macro_rules | `(tactic| sizeOf_list_dec) => `(tactic| first | omega | (simp only [List.length_append, List.length_map, List.length_cons, List.length_nil, List.length_take, List.length_drop, List.length_reverse, List.length_set, List.length_replicate, List.length_singleton, List.length_range]; omega) | (simp; omega))
local macro_rules | `(tactic| array_get_dec) => `(tactic| repeat' first
  | with_reducible assumption
  | (with_reducible exact ev_const) | (with_reducible exact ev_nilA) | (with_reducible exact ev_nilM) | (with_reducible exact ev_noPart) | (with_reducible exact ev_dfA) | (with_reducible exact ev_mk0)
  | ((with_reducible apply ev_name); (exact rfl)) | ((with_reducible apply ev_nameM); (exact rfl)) | ((with_reducible apply ev_nameB); (exact rfl))
  | (with_reducible apply ev_consA) | (with_reducible apply ev_op2) | (with_reducible apply ev_op1) | (with_reducible apply ev_opN) | (with_reducible apply ev_call) | (with_reducible apply ev_val) | (with_reducible apply ev_notT)
  | ((with_reducible apply ev_and1); (focus ((array_get_dec; done))); (focus ((first | (with_reducible rfl) | (with_reducible assumption) | exact Bool.not_true | exact Bool.not_false | exact decide_eq_true (by first | (with_reducible assumption) | omega) | exact decide_eq_false (by first | (with_reducible assumption) | omega) | exact nd_t (by first | (with_reducible assumption) | omega) | exact nd_f (by first | (with_reducible assumption) | omega) | exact nb_t (by first | (with_reducible assumption) | omega) | exact nb_f (by first | (with_reducible assumption) | omega) | (simp only [decide_true, decide_false, Bool.not_true, Bool.not_false, Bool.true_and, Bool.and_true, Bool.false_and, Bool.and_false, Bool.or_true, Bool.true_or, Bool.or_false, Bool.false_or]; done))))) | ((with_reducible apply ev_and2); (focus ((array_get_dec; done))); (focus ((first | (with_reducible rfl) | (with_reducible assumption) | exact Bool.not_true | exact Bool.not_false | exact decide_eq_true (by first | (with_reducible assumption) | omega) | exact decide_eq_false (by first | (with_reducible assumption) | omega) | exact nd_t (by first | (with_reducible assumption) | omega) | exact nd_f (by first | (with_reducible assumption) | omega) | exact nb_t (by first | (with_reducible assumption) | omega) | exact nb_f (by first | (with_reducible assumption) | omega) | (simp only [decide_true, decide_false, Bool.not_true, Bool.not_false, Bool.true_and, Bool.and_true, Bool.false_and, Bool.and_false, Bool.or_true, Bool.true_or, Bool.or_false, Bool.false_or]; done))))) | ((with_reducible apply ev_or1); (focus ((array_get_dec; done))); (focus ((first | (with_reducible rfl) | (with_reducible assumption) | exact Bool.not_true | exact Bool.not_false | exact decide_eq_true (by first | (with_reducible assumption) | omega) | exact decide_eq_false (by first | (with_reducible assumption) | omega) | exact nd_t (by first | (with_reducible assumption) | omega) | exact nd_f (by first | (with_reducible assumption) | omega) | exact nb_t (by first | (with_reducible assumption) | omega) | exact nb_f (by first | (with_reducible assumption) | omega) | (simp only [decide_true, decide_false, Bool.not_true, Bool.not_false, Bool.true_and, Bool.and_true, Bool.false_and, Bool.and_false, Bool.or_true, Bool.true_or, Bool.or_false, Bool.false_or]; done))))) | ((with_reducible apply ev_or2); (focus ((array_get_dec; done))); (focus ((first | (with_reducible rfl) | (with_reducible assumption) | exact Bool.not_true | exact Bool.not_false | exact decide_eq_true (by first | (with_reducible assumption) | omega) | exact decide_eq_false (by first | (with_reducible assumption) | omega) | exact nd_t (by first | (with_reducible assumption) | omega) | exact nd_f (by first | (with_reducible assumption) | omega) | exact nb_t (by first | (with_reducible assumption) | omega) | exact nb_f (by first | (with_reducible assumption) | omega) | (simp only [decide_true, decide_false, Bool.not_true, Bool.not_false, Bool.true_and, Bool.and_true, Bool.false_and, Bool.and_false, Bool.or_true, Bool.true_or, Bool.or_false, Bool.false_or]; done))))) | ((with_reducible apply ev_ifE1); (focus ((array_get_dec; done))); (focus ((first | (with_reducible rfl) | (with_reducible assumption) | exact Bool.not_true | exact Bool.not_false | exact decide_eq_true (by first | (with_reducible assumption) | omega) | exact decide_eq_false (by first | (with_reducible assumption) | omega) | exact nd_t (by first | (with_reducible assumption) | omega) | exact nd_f (by first | (with_reducible assumption) | omega) | exact nb_t (by first | (with_reducible assumption) | omega) | exact nb_f (by first | (with_reducible assumption) | omega) | (simp only [decide_true, decide_false, Bool.not_true, Bool.not_false, Bool.true_and, Bool.and_true, Bool.false_and, Bool.and_false, Bool.or_true, Bool.true_or, Bool.or_false, Bool.false_or]; done))))) | ((with_reducible apply ev_ifE2); (focus ((array_get_dec; done))); (focus ((first | (with_reducible rfl) | (with_reducible assumption) | exact Bool.not_true | exact Bool.not_false | exact decide_eq_true (by first | (with_reducible assumption) | omega) | exact decide_eq_false (by first | (with_reducible assumption) | omega) | exact nd_t (by first | (with_reducible assumption) | omega) | exact nd_f (by first | (with_reducible assumption) | omega) | exact nb_t (by first | (with_reducible assumption) | omega) | exact nb_f (by first | (with_reducible assumption) | omega) | (simp only [decide_true, decide_false, Bool.not_true, Bool.not_false, Bool.true_and, Bool.and_true, Bool.false_and, Bool.and_false, Bool.or_true, Bool.true_or, Bool.or_false, Bool.false_or]; done))))) | ((with_reducible apply ev_ifF1); (focus ((array_get_dec; done))); (focus ((first | (with_reducible rfl) | (with_reducible assumption) | exact Bool.not_true | exact Bool.not_false | exact decide_eq_true (by first | (with_reducible assumption) | omega) | exact decide_eq_false (by first | (with_reducible assumption) | omega) | exact nd_t (by first | (with_reducible assumption) | omega) | exact nd_f (by first | (with_reducible assumption) | omega) | exact nb_t (by first | (with_reducible assumption) | omega) | exact nb_f (by first | (with_reducible assumption) | omega) | (simp only [decide_true, decide_false, Bool.not_true, Bool.not_false, Bool.true_and, Bool.and_true, Bool.false_and, Bool.and_false, Bool.or_true, Bool.true_or, Bool.or_false, Bool.false_or]; done))))) | ((with_reducible apply ev_ifF2); (focus ((array_get_dec; done))); (focus ((first | (with_reducible rfl) | (with_reducible assumption) | exact Bool.not_true | exact Bool.not_false | exact decide_eq_true (by first | (with_reducible assumption) | omega) | exact decide_eq_false (by first | (with_reducible assumption) | omega) | exact nd_t (by first | (with_reducible assumption) | omega) | exact nd_f (by first | (with_reducible assumption) | omega) | exact nb_t (by first | (with_reducible assumption) | omega) | exact nb_f (by first | (with_reducible assumption) | omega) | (simp only [decide_true, decide_false, Bool.not_true, Bool.not_false, Bool.true_and, Bool.and_true, Bool.false_and, Bool.and_false, Bool.or_true, Bool.true_or, Bool.or_false, Bool.false_or]; done)))))
  | (with_reducible apply ev_and) | (with_reducible apply ev_or) | (with_reducible apply ev_frz) | (with_reducible apply ev_tup) | (with_reducible apply ev_lst) | (with_reducible apply ev_opNF) | (with_reducible apply ev_op2F) | (with_reducible apply ev_callB) | (with_reducible apply ev_starA) | (with_reducible apply ev_permA) | (with_reducible apply ev_app) | (with_reducible apply ev_ext) | (with_reducible apply ev_pop) | (with_reducible apply ev_rem) | (with_reducible apply ev_aPart) | (with_reducible apply ev_sl) | (with_reducible apply ev_ixT) | (with_reducible apply ev_andE) | (with_reducible apply ev_orE) | (with_reducible apply ev_notE) | (with_reducible apply ev_ifE) | (with_reducible apply ev_consMd) | (with_reducible apply ev_consMf) | (with_reducible apply ev_rng1) | (with_reducible apply ev_seqI) | (with_reducible apply ev_lrg1) | (with_reducible apply ev_lrg2) | (with_reducible apply ev_mk)
  | (with_reducible apply dv_addL) | (with_reducible apply dv_addT) | (with_reducible apply dv_cat)
  | (with_reducible exact dv_eqI _ _) | (with_reducible exact dv_neI _ _) | (with_reducible exact dv_eqS _ _) | (with_reducible exact dv_neS _ _)
  | ((with_reducible show eqD _ _ = some _); exact dv_eqS _ _) | ((with_reducible show neD _ _ = some _); exact dv_neS _ _)
  | (with_reducible exact datAll_dsA _ _ _ (by rfl)) | (with_reducible exact datAll_ds _)
  | ((with_reducible show _ ≤ _); sizeOf_list_dec) | ((with_reducible show _ < _); sizeOf_list_dec)
  | ((with_reducible show (_ : Rho) = _); first | (dsimp only [List.set]; done) | exact rfl)
  | ((with_reducible show (_ : Nat) = _); exact rfl)
  | exact (rfl : _ = some _) | exact (rfl : _ = true) | exact (rfl : _ = false)
  | (intro _))
local macro_rules | `(tactic| array_mem_dec) => `(tactic| repeat' first
  | with_reducible assumption
  | (with_reducible exact ev_next) | (with_reducible exact ev_raise0)
  | ((with_reducible apply ev_seqN); (focus (first | ((with_reducible apply ev_asg); (array_get_dec; done)) | ((with_reducible apply ev_asgM); (array_get_dec; done)) | ((with_reducible apply ev_par); (array_get_dec; done)) | ((with_reducible apply ev_drop); (array_get_dec; done)) | ((with_reducible apply ev_aug); (array_get_dec; done)) | ((with_reducible apply ev_put); (array_get_dec; done)) | (with_reducible assumption) | ((with_reducible apply ev_ifS2); (focus ((array_get_dec; done))); (focus ((first | (with_reducible rfl) | (with_reducible assumption) | exact Bool.not_true | exact Bool.not_false | exact decide_eq_true (by first | (with_reducible assumption) | omega) | exact decide_eq_false (by first | (with_reducible assumption) | omega) | exact nd_t (by first | (with_reducible assumption) | omega) | exact nd_f (by first | (with_reducible assumption) | omega) | exact nb_t (by first | (with_reducible assumption) | omega) | exact nb_f (by first | (with_reducible assumption) | omega) | (simp only [decide_true, decide_false, Bool.not_true, Bool.not_false, Bool.true_and, Bool.and_true, Bool.false_and, Bool.and_false, Bool.or_true, Bool.true_or, Bool.or_false, Bool.false_or]; done)))); exact ev_next))); (focus (first | (dsimp only [List.set, setsR]; done) | exact rfl)))
  | ((with_reducible apply ev_seqR); (focus ((with_reducible apply ev_ifS1); (focus ((array_get_dec; done))); (focus ((first | (with_reducible rfl) | (with_reducible assumption) | exact Bool.not_true | exact Bool.not_false | exact decide_eq_true (by first | (with_reducible assumption) | omega) | exact decide_eq_false (by first | (with_reducible assumption) | omega) | exact nd_t (by first | (with_reducible assumption) | omega) | exact nd_f (by first | (with_reducible assumption) | omega) | exact nb_t (by first | (with_reducible assumption) | omega) | exact nb_f (by first | (with_reducible assumption) | omega) | (simp only [decide_true, decide_false, Bool.not_true, Bool.not_false, Bool.true_and, Bool.and_true, Bool.false_and, Bool.and_false, Bool.or_true, Bool.true_or, Bool.or_false, Bool.false_or]; done)))); ((with_reducible apply ev_ret); (array_get_dec; done)))))
  | ((with_reducible apply ev_seqX); (focus ((with_reducible apply ev_ifS1); (focus ((array_get_dec; done))); (focus ((first | (with_reducible rfl) | (with_reducible assumption) | exact Bool.not_true | exact Bool.not_false | exact decide_eq_true (by first | (with_reducible assumption) | omega) | exact decide_eq_false (by first | (with_reducible assumption) | omega) | exact nd_t (by first | (with_reducible assumption) | omega) | exact nd_f (by first | (with_reducible assumption) | omega) | exact nb_t (by first | (with_reducible assumption) | omega) | exact nb_f (by first | (with_reducible assumption) | omega) | (simp only [decide_true, decide_false, Bool.not_true, Bool.not_false, Bool.true_and, Bool.and_true, Bool.false_and, Bool.and_false, Bool.or_true, Bool.true_or, Bool.or_false, Bool.false_or]; done)))); (first | exact ev_raise0 | ((with_reducible apply ev_raise); (array_get_dec; done))))))
  | ((with_reducible apply ev_seqN); (focus ((with_reducible apply ev_ifS1); (focus ((array_get_dec; done))); (focus ((first | (with_reducible rfl) | (with_reducible assumption) | exact Bool.not_true | exact Bool.not_false | exact decide_eq_true (by first | (with_reducible assumption) | omega) | exact decide_eq_false (by first | (with_reducible assumption) | omega) | exact nd_t (by first | (with_reducible assumption) | omega) | exact nd_f (by first | (with_reducible assumption) | omega) | exact nb_t (by first | (with_reducible assumption) | omega) | exact nb_f (by first | (with_reducible assumption) | omega) | (simp only [decide_true, decide_false, Bool.not_true, Bool.not_false, Bool.true_and, Bool.and_true, Bool.false_and, Bool.and_false, Bool.or_true, Bool.true_or, Bool.or_false, Bool.false_or]; done)))); (array_mem_dec; done))); (focus (first | (dsimp only [List.set, setsR]; done) | exact rfl)))
  | ((with_reducible apply ev_ifS1); (focus ((array_get_dec; done))); (focus ((first | (with_reducible rfl) | (with_reducible assumption) | exact Bool.not_true | exact Bool.not_false | exact decide_eq_true (by first | (with_reducible assumption) | omega) | exact decide_eq_false (by first | (with_reducible assumption) | omega) | exact nd_t (by first | (with_reducible assumption) | omega) | exact nd_f (by first | (with_reducible assumption) | omega) | exact nb_t (by first | (with_reducible assumption) | omega) | exact nb_f (by first | (with_reducible assumption) | omega) | (simp only [decide_true, decide_false, Bool.not_true, Bool.not_false, Bool.true_and, Bool.and_true, Bool.false_and, Bool.and_false, Bool.or_true, Bool.true_or, Bool.or_false, Bool.false_or]; done))))) | ((with_reducible apply ev_ifS2); (focus ((array_get_dec; done))); (focus ((first | (with_reducible rfl) | (with_reducible assumption) | exact Bool.not_true | exact Bool.not_false | exact decide_eq_true (by first | (with_reducible assumption) | omega) | exact decide_eq_false (by first | (with_reducible assumption) | omega) | exact nd_t (by first | (with_reducible assumption) | omega) | exact nd_f (by first | (with_reducible assumption) | omega) | exact nb_t (by first | (with_reducible assumption) | omega) | exact nb_f (by first | (with_reducible assumption) | omega) | (simp only [decide_true, decide_false, Bool.not_true, Bool.not_false, Bool.true_and, Bool.and_true, Bool.false_and, Bool.and_false, Bool.or_true, Bool.true_or, Bool.or_false, Bool.false_or]; done)))))
  | ((with_reducible apply ev_ret); (array_get_dec; done)) | ((with_reducible apply ev_retF); (array_get_dec; done)) | ((with_reducible apply ev_asg); (array_get_dec; done)) | ((with_reducible apply ev_asgM); (array_get_dec; done)) | ((with_reducible apply ev_par); (array_get_dec; done)) | ((with_reducible apply ev_drop); (array_get_dec; done)) | ((with_reducible apply ev_aug); (array_get_dec; done)) | ((with_reducible apply ev_put); (array_get_dec; done)) | ((with_reducible apply ev_raise); (array_get_dec; done)))
/-! ### the box of draws, the cells of the script -/
theorem take_pos {b0 b1 b2 n : Int} (h : 0 < b0) (h1 : 0 < n) (h2 : n < 1073741824) : f_law_take [b0, b1, b2] [.int n] = some (.int (b0 % n), [b0 / n, b1, b2]) := by
  simp [f_law_take, m_law_take, Lq.runF, Lq.runB, Lq.runL, Lq.boxAt, Lq.startR, Lq.seqS, Lq.nextS, Lq.ifS, Lq.asgS, Lq.asgM, Lq.asgG, Lq.retS, Lq.retF, Lq.dropS, Lq.forS, Lq.loopS, Lq.turnS, Lq.putItem, Lq.isMB, Lq.putS1, Lq.parS, Lq.consMd, Lq.consMf', Lq.noErr, Lq.nilM, Lq.setsR, Lq.nameE, Lq.constE, Lq.op1E, Lq.op2E, Lq.opNE, Lq.opNF, Lq.op2F, Lq.lift1, Lq.lift2, Lq.liftN, Lq.res, Lq.resAll, Lq.valT, Lq.notT, Lq.andT, Lq.orT, Lq.andE, Lq.orE, Lq.notE, Lq.ifE, Lq.consA, Lq.nilA, Lq.frzE, Lq.lstF, Lq.tupE, Lq.callE, Lq.callBE, Lq.callL, Lq.callNew, Lq.slotted, Lq.datAll, Lq.appE, Lq.popE, Lq.compF, Lq.compLoop, Lq.compTurn, Lq.yesT, Lq.wipeR, Lq.backR, Lq.plainC, Lq.nameG, Lq.tupG, Lq.consG, Lq.nilG, Lq.seqI, Lq.rngI1, Lq.rngI2, Lq.enumI, Lq.zipI, Lq.isiE, Lq.slE, Lq.aPart, Lq.noPart, Lq.chainE, Lq.strM, Lq.orF, Lq.R.bind, Lq.R.thnO, Lq.raiseS, Lq.raise0S, Lq.tryS, Lq.hNil, Lq.hAs, Lq.goneS, Lq.enumA, Lq.enumK, Lq.ifF, Lq.permA, Lq.permL, Lq.D.noL, Lq.noLs, Lq.isEx, Lq.fldD, Lq.isErrD, Lq.itemsOf, Lq.onlyB, Lq.isB, Lq.D.flat, Lq.starA, Lq.extE, Lq.augS, Lq.ixTE, Lq.mvS, Lq.dfA, Lq.slotD, Lq.propD, Lq.mkE, Lq.mkE0, Lq.addD, Lq.catF, Lq.subD, Lq.mulD, Lq.fdivD, Lq.modD, Lq.powD, Lq.negD, Lq.ltD, Lq.leD, Lq.gtD, Lq.geD, Lq.eqD, Lq.neD, Lq.sameKind, Lq.isD, Lq.isntD, Lq.isNon, Lq.inD, Lq.ninD, Lq.anyEq, Lq.lenD, Lq.atD, Lq.cutD, Lq.revD, Lq.splitD, Lq.joinD, Lq.tupleD, Lq.tupleTD, Lq.listF, Lq.allD, Lq.anyD, Lq.sumD, Lq.absD, Lq.min2D, Lq.max2D, Lq.intD, Lq.strD, Lq.sortedF, Lq.isiB, Lq.tyName, Lq.notObj, Lq.D.items?, Lq.fits, L2.atI, L2.ixN, h, h1, h2]
theorem take_zero {b1 b2 n : Int} (h1 : 0 < n) (h3 : 0 ≤ b2) (h4 : b2 < 1000000000000) : f_law_take [0, b1, b2] [.int n] = some (.int (drawn b1 b2 n), [0, b1, b2 + 1]) := by
  have e1 : big (39373 + (b2 + 1)) = true := big_of (by omega) (by omega)
  have e2 : big 48271 = true := by decide
  have e3 : ∀ z : Int, big (z % 40009 + 7) = true := fun z => big_of (by omega) (by omega)
  simp [f_law_take, m_law_take, Lq.runF, Lq.runB, Lq.runL, Lq.boxAt, Lq.startR, Lq.seqS, Lq.nextS, Lq.ifS, Lq.asgS, Lq.asgM, Lq.asgG, Lq.retS, Lq.retF, Lq.dropS, Lq.forS, Lq.loopS, Lq.turnS, Lq.putItem, Lq.isMB, Lq.putS1, Lq.parS, Lq.consMd, Lq.consMf', Lq.noErr, Lq.nilM, Lq.setsR, Lq.nameE, Lq.constE, Lq.op1E, Lq.op2E, Lq.opNE, Lq.opNF, Lq.op2F, Lq.lift1, Lq.lift2, Lq.liftN, Lq.res, Lq.resAll, Lq.valT, Lq.notT, Lq.andT, Lq.orT, Lq.andE, Lq.orE, Lq.notE, Lq.ifE, Lq.consA, Lq.nilA, Lq.frzE, Lq.lstF, Lq.tupE, Lq.callE, Lq.callBE, Lq.callL, Lq.callNew, Lq.slotted, Lq.datAll, Lq.appE, Lq.popE, Lq.compF, Lq.compLoop, Lq.compTurn, Lq.yesT, Lq.wipeR, Lq.backR, Lq.plainC, Lq.nameG, Lq.tupG, Lq.consG, Lq.nilG, Lq.seqI, Lq.rngI1, Lq.rngI2, Lq.enumI, Lq.zipI, Lq.isiE, Lq.slE, Lq.aPart, Lq.noPart, Lq.chainE, Lq.strM, Lq.orF, Lq.R.bind, Lq.R.thnO, Lq.raiseS, Lq.raise0S, Lq.tryS, Lq.hNil, Lq.hAs, Lq.goneS, Lq.enumA, Lq.enumK, Lq.ifF, Lq.permA, Lq.permL, Lq.D.noL, Lq.noLs, Lq.isEx, Lq.fldD, Lq.isErrD, Lq.itemsOf, Lq.onlyB, Lq.isB, Lq.D.flat, Lq.starA, Lq.extE, Lq.augS, Lq.ixTE, Lq.mvS, Lq.dfA, Lq.slotD, Lq.propD, Lq.mkE, Lq.mkE0, Lq.addD, Lq.catF, Lq.subD, Lq.mulD, Lq.fdivD, Lq.modD, Lq.powD, Lq.negD, Lq.ltD, Lq.leD, Lq.gtD, Lq.geD, Lq.eqD, Lq.neD, Lq.sameKind, Lq.isD, Lq.isntD, Lq.isNon, Lq.inD, Lq.ninD, Lq.anyEq, Lq.lenD, Lq.atD, Lq.cutD, Lq.revD, Lq.splitD, Lq.joinD, Lq.tupleD, Lq.tupleTD, Lq.listF, Lq.allD, Lq.anyD, Lq.sumD, Lq.absD, Lq.min2D, Lq.max2D, Lq.intD, Lq.strD, Lq.sortedF, Lq.isiB, Lq.tyName, Lq.notObj, Lq.D.items?, Lq.fits, L2.atI, L2.ixN, h1, e1, e2, e3, drawn]
theorem take_ok {k : Nat} {ns : List Int} {n : Int} (hb : Bx k ns) (h1 : 0 < n) (h2 : n < 1073741824) (hk : k < 1000000000000) : ∃ r ns', f_law_take ns [.int n] = some (.int r, ns') ∧ 0 ≤ r ∧ r < n ∧ Bx (k + 1) ns' := by
  obtain ⟨b0, b1, b2, rfl, g1, g2, g3, g4, g5⟩ := hb
  by_cases h : 0 < b0
  · exact ⟨_, _, take_pos h h1 h2, Int.emod_nonneg _ (by omega), Int.emod_lt_of_pos _ h1, ⟨_, _, _, rfl, Int.ediv_nonneg (by omega) (by omega), g2, g3, g4, by omega⟩⟩
  · have e : b0 = 0 := by omega
    subst e
    exact ⟨_, _, take_zero h1 g4 (by omega), Int.emod_nonneg _ (by omega), Int.emod_lt_of_pos _ h1, ⟨_, _, _, rfl, by omega, g2, g3, by omega, by omega⟩⟩
theorem box_ok {ms : List Int} {k : Nat} (hk : k < ms.length) (h3 : ms.length ≤ 3) : ∃ b0 b1, f_law_box [.lst (ms.map D.int), .int k] = some [.int b0, .int b1, .int 0] ∧ Bx 0 [b0, b1, 0] := by
  have e2 : ∀ a : Int, big (if 1000000000000000000 ≤ a then 1 else 0) = true := fun a => by split <;> decide
  have e3 : big 39373 = true := by decide
  have hg : (ms.map D.int)[k]? = some (.int ms[k]) := by rw [List.getElem?_map, List.getElem?_eq_getElem hk]; rfl
  refine ⟨(if ms[k] < 0 then -ms[k] else ms[k]) * (if decide (1000000000000000000 ≤ (if ms[k] < 0 then -ms[k] else ms[k])) = true then 1 else 0), ms[k] % 2305843009213693951 + 39373 * (k : Int) + 83037, ?_, ⟨_, _, _, rfl, ?_, ?_, ?_, ?_, ?_⟩⟩
  · simp [f_law_box, m_law_box, Lq.runF, Lq.runB, Lq.runL, Lq.boxAt, Lq.startR, Lq.seqS, Lq.nextS, Lq.ifS, Lq.asgS, Lq.asgM, Lq.asgG, Lq.retS, Lq.retF, Lq.dropS, Lq.forS, Lq.loopS, Lq.turnS, Lq.putItem, Lq.isMB, Lq.putS1, Lq.parS, Lq.consMd, Lq.consMf', Lq.noErr, Lq.nilM, Lq.setsR, Lq.nameE, Lq.constE, Lq.op1E, Lq.op2E, Lq.opNE, Lq.opNF, Lq.op2F, Lq.lift1, Lq.lift2, Lq.liftN, Lq.res, Lq.resAll, Lq.valT, Lq.notT, Lq.andT, Lq.orT, Lq.andE, Lq.orE, Lq.notE, Lq.ifE, Lq.consA, Lq.nilA, Lq.frzE, Lq.lstF, Lq.tupE, Lq.callE, Lq.callBE, Lq.callL, Lq.callNew, Lq.slotted, Lq.datAll, Lq.appE, Lq.popE, Lq.compF, Lq.compLoop, Lq.compTurn, Lq.yesT, Lq.wipeR, Lq.backR, Lq.plainC, Lq.nameG, Lq.tupG, Lq.consG, Lq.nilG, Lq.seqI, Lq.rngI1, Lq.rngI2, Lq.enumI, Lq.zipI, Lq.isiE, Lq.slE, Lq.aPart, Lq.noPart, Lq.chainE, Lq.strM, Lq.orF, Lq.R.bind, Lq.R.thnO, Lq.raiseS, Lq.raise0S, Lq.tryS, Lq.hNil, Lq.hAs, Lq.goneS, Lq.enumA, Lq.enumK, Lq.ifF, Lq.permA, Lq.permL, Lq.D.noL, Lq.noLs, Lq.isEx, Lq.fldD, Lq.isErrD, Lq.itemsOf, Lq.onlyB, Lq.isB, Lq.D.flat, Lq.starA, Lq.extE, Lq.augS, Lq.ixTE, Lq.mvS, Lq.dfA, Lq.slotD, Lq.propD, Lq.mkE, Lq.mkE0, Lq.addD, Lq.catF, Lq.subD, Lq.mulD, Lq.fdivD, Lq.modD, Lq.powD, Lq.negD, Lq.ltD, Lq.leD, Lq.gtD, Lq.geD, Lq.eqD, Lq.neD, Lq.sameKind, Lq.isD, Lq.isntD, Lq.isNon, Lq.inD, Lq.ninD, Lq.anyEq, Lq.lenD, Lq.atD, Lq.cutD, Lq.revD, Lq.splitD, Lq.joinD, Lq.tupleD, Lq.tupleTD, Lq.listF, Lq.allD, Lq.anyD, Lq.sumD, Lq.absD, Lq.min2D, Lq.max2D, Lq.intD, Lq.strD, Lq.sortedF, Lq.isiB, Lq.tyName, Lq.notObj, Lq.D.items?, Lq.fits, L2.atI, L2.ixN, e2, e3, hk, hg]
  · exact Int.mul_nonneg (by split <;> omega) ((fun b : Bool => (by cases b <;> decide : (0 : Int) ≤ if b = true then 1 else 0)) _)
  · have := Int.emod_nonneg ms[k] (show (2305843009213693951 : Int) ≠ 0 by decide); omega
  · have := Int.emod_lt_of_pos ms[k] (show (0 : Int) < 2305843009213693951 by decide); omega
  · omega
  · omega
theorem cells_loop {ns : List Int} : ∀ (xs : List Int) (i : Nat) (ms : List Int) (c3 c4 c5 : Cell), ms.length = 3 → i + xs.length ≤ 63 → ∃ (ms' : List Int) (c3' c4' c5' : Cell), ms'.length = 3 ∧
    loopS (turnS m_law_cells_g1 m_law_cells_b1) (((xs.map D.int).zipIdx i).map fun p => D.tup [.int (p.2 : Nat), p.1]) [.d (.scr ns), .d (.int 3), .m (ms.map D.int), c3, c4, c5] = .nx [.d (.scr ns), .d (.int 3), .m (ms'.map D.int), c3', c4', c5']
  | [], i, ms, c3, c4, c5, h, _ => ⟨ms, c3, c4, c5, h, by simp [loopS]⟩
  | x :: xs, i, ms, c3, c4, c5, h, hl => by
    rw [List.length_cons] at hl
    have hj : ((i : Int) % 3).toNat < ms.length := by omega
    have hj0 : 0 ≤ (i : Int) % 3 := Int.emod_nonneg _ (by decide)
    have hj1 : (i : Int) % 3 < 3 := Int.emod_lt_of_pos _ (by decide)
    have hg : (ms.map D.int)[((i : Int) % 3).toNat]? = some (.int ms[((i : Int) % 3).toNat]) := by rw [List.getElem?_map, List.getElem?_eq_getElem hj]; rfl
    obtain ⟨ms', a3, a4, a5, hm, e⟩ := cells_loop xs (i + 1) (ms.set ((i : Int) % 3).toNat (ms[((i : Int) % 3).toNat] + x * ((i : Int) + 2))) (.d (.int i)) (.d (.int x)) (.d (.int ((i : Int) % 3))) (by rw [List.length_set]; exact h) (by omega)
    refine ⟨ms', a3, a4, a5, hm, ?_⟩
    rw [List.map_cons, List.zipIdx_cons, List.map_cons, loopS]
    have eb : turnS m_law_cells_g1 m_law_cells_b1 (D.tup [.int (i : Nat), .int x]) [.d (.scr ns), .d (.int 3), .m (ms.map D.int), c3, c4, c5] = .nx [.d (.scr ns), .d (.int 3), .m ((ms.set ((i : Int) % 3).toNat (ms[((i : Int) % 3).toNat] + x * ((i : Int) + 2))).map D.int), .d (.int i), .d (.int x), .d (.int ((i : Int) % 3))] := by
      have hb : big ((i : Int) + 2) = true := big_of (by omega) (by omega)
      simp [m_law_cells_g1, m_law_cells_b1, Lq.runF, Lq.runB, Lq.runL, Lq.boxAt, Lq.startR, Lq.seqS, Lq.nextS, Lq.ifS, Lq.asgS, Lq.asgM, Lq.asgG, Lq.retS, Lq.retF, Lq.dropS, Lq.forS, Lq.loopS, Lq.turnS, Lq.putItem, Lq.isMB, Lq.putS1, Lq.parS, Lq.consMd, Lq.consMf', Lq.noErr, Lq.nilM, Lq.setsR, Lq.nameE, Lq.constE, Lq.op1E, Lq.op2E, Lq.opNE, Lq.opNF, Lq.op2F, Lq.lift1, Lq.lift2, Lq.liftN, Lq.res, Lq.resAll, Lq.valT, Lq.notT, Lq.andT, Lq.orT, Lq.andE, Lq.orE, Lq.notE, Lq.ifE, Lq.consA, Lq.nilA, Lq.frzE, Lq.lstF, Lq.tupE, Lq.callE, Lq.callBE, Lq.callL, Lq.callNew, Lq.slotted, Lq.datAll, Lq.appE, Lq.popE, Lq.compF, Lq.compLoop, Lq.compTurn, Lq.yesT, Lq.wipeR, Lq.backR, Lq.plainC, Lq.nameG, Lq.tupG, Lq.consG, Lq.nilG, Lq.seqI, Lq.rngI1, Lq.rngI2, Lq.enumI, Lq.zipI, Lq.isiE, Lq.slE, Lq.aPart, Lq.noPart, Lq.chainE, Lq.strM, Lq.orF, Lq.R.bind, Lq.R.thnO, Lq.raiseS, Lq.raise0S, Lq.tryS, Lq.hNil, Lq.hAs, Lq.goneS, Lq.enumA, Lq.enumK, Lq.ifF, Lq.permA, Lq.permL, Lq.D.noL, Lq.noLs, Lq.isEx, Lq.fldD, Lq.isErrD, Lq.itemsOf, Lq.onlyB, Lq.isB, Lq.D.flat, Lq.starA, Lq.extE, Lq.augS, Lq.ixTE, Lq.mvS, Lq.dfA, Lq.slotD, Lq.propD, Lq.mkE, Lq.mkE0, Lq.addD, Lq.catF, Lq.subD, Lq.mulD, Lq.fdivD, Lq.modD, Lq.powD, Lq.negD, Lq.ltD, Lq.leD, Lq.gtD, Lq.geD, Lq.eqD, Lq.neD, Lq.sameKind, Lq.isD, Lq.isntD, Lq.isNon, Lq.inD, Lq.ninD, Lq.anyEq, Lq.lenD, Lq.atD, Lq.cutD, Lq.revD, Lq.splitD, Lq.joinD, Lq.tupleD, Lq.tupleTD, Lq.listF, Lq.allD, Lq.anyD, Lq.sumD, Lq.absD, Lq.min2D, Lq.max2D, Lq.intD, Lq.strD, Lq.sortedF, Lq.isiB, Lq.tyName, Lq.notObj, Lq.D.items?, Lq.fits, L2.atI, L2.ixN, h, hj0, hj1, hg, hb, List.map_set]
    rw [eb]
    exact e
end Lw
namespace Lw
open PySem Lq
local macro_rules | `(tactic| sizeOf_list_dec) => `(tactic| first | omega | (simp only [List.length_append, List.length_map, List.length_cons, List.length_nil, List.length_take, List.length_drop, List.length_reverse, List.length_set, List.length_replicate, List.length_singleton, List.length_range]; omega) | (simp; omega))
local macro_rules | `(tactic| array_get_dec) => `(tactic| repeat' first
  | with_reducible assumption
  | (with_reducible exact ev_const) | (with_reducible exact ev_nilA) | (with_reducible exact ev_nilM) | (with_reducible exact ev_noPart) | (with_reducible exact ev_dfA) | (with_reducible exact ev_mk0)
  | ((with_reducible apply ev_name); (exact rfl)) | ((with_reducible apply ev_nameM); (exact rfl)) | ((with_reducible apply ev_nameB); (exact rfl))
  | (with_reducible apply ev_consA) | (with_reducible apply ev_op2) | (with_reducible apply ev_op1) | (with_reducible apply ev_opN) | (with_reducible apply ev_call) | (with_reducible apply ev_val) | (with_reducible apply ev_notT)
  | ((with_reducible apply ev_and1); (focus ((array_get_dec; done))); (focus ((first | (with_reducible rfl) | (with_reducible assumption) | exact Bool.not_true | exact Bool.not_false | exact decide_eq_true (by first | (with_reducible assumption) | omega) | exact decide_eq_false (by first | (with_reducible assumption) | omega) | exact nd_t (by first | (with_reducible assumption) | omega) | exact nd_f (by first | (with_reducible assumption) | omega) | exact nb_t (by first | (with_reducible assumption) | omega) | exact nb_f (by first | (with_reducible assumption) | omega) | (simp only [decide_true, decide_false, Bool.not_true, Bool.not_false, Bool.true_and, Bool.and_true, Bool.false_and, Bool.and_false, Bool.or_true, Bool.true_or, Bool.or_false, Bool.false_or]; done))))) | ((with_reducible apply ev_and2); (focus ((array_get_dec; done))); (focus ((first | (with_reducible rfl) | (with_reducible assumption) | exact Bool.not_true | exact Bool.not_false | exact decide_eq_true (by first | (with_reducible assumption) | omega) | exact decide_eq_false (by first | (with_reducible assumption) | omega) | exact nd_t (by first | (with_reducible assumption) | omega) | exact nd_f (by first | (with_reducible assumption) | omega) | exact nb_t (by first | (with_reducible assumption) | omega) | exact nb_f (by first | (with_reducible assumption) | omega) | (simp only [decide_true, decide_false, Bool.not_true, Bool.not_false, Bool.true_and, Bool.and_true, Bool.false_and, Bool.and_false, Bool.or_true, Bool.true_or, Bool.or_false, Bool.false_or]; done))))) | ((with_reducible apply ev_or1); (focus ((array_get_dec; done))); (focus ((first | (with_reducible rfl) | (with_reducible assumption) | exact Bool.not_true | exact Bool.not_false | exact decide_eq_true (by first | (with_reducible assumption) | omega) | exact decide_eq_false (by first | (with_reducible assumption) | omega) | exact nd_t (by first | (with_reducible assumption) | omega) | exact nd_f (by first | (with_reducible assumption) | omega) | exact nb_t (by first | (with_reducible assumption) | omega) | exact nb_f (by first | (with_reducible assumption) | omega) | (simp only [decide_true, decide_false, Bool.not_true, Bool.not_false, Bool.true_and, Bool.and_true, Bool.false_and, Bool.and_false, Bool.or_true, Bool.true_or, Bool.or_false, Bool.false_or]; done))))) | ((with_reducible apply ev_or2); (focus ((array_get_dec; done))); (focus ((first | (with_reducible rfl) | (with_reducible assumption) | exact Bool.not_true | exact Bool.not_false | exact decide_eq_true (by first | (with_reducible assumption) | omega) | exact decide_eq_false (by first | (with_reducible assumption) | omega) | exact nd_t (by first | (with_reducible assumption) | omega) | exact nd_f (by first | (with_reducible assumption) | omega) | exact nb_t (by first | (with_reducible assumption) | omega) | exact nb_f (by first | (with_reducible assumption) | omega) | (simp only [decide_true, decide_false, Bool.not_true, Bool.not_false, Bool.true_and, Bool.and_true, Bool.false_and, Bool.and_false, Bool.or_true, Bool.true_or, Bool.or_false, Bool.false_or]; done))))) | ((with_reducible apply ev_ifE1); (focus ((array_get_dec; done))); (focus ((first | (with_reducible rfl) | (with_reducible assumption) | exact Bool.not_true | exact Bool.not_false | exact decide_eq_true (by first | (with_reducible assumption) | omega) | exact decide_eq_false (by first | (with_reducible assumption) | omega) | exact nd_t (by first | (with_reducible assumption) | omega) | exact nd_f (by first | (with_reducible assumption) | omega) | exact nb_t (by first | (with_reducible assumption) | omega) | exact nb_f (by first | (with_reducible assumption) | omega) | (simp only [decide_true, decide_false, Bool.not_true, Bool.not_false, Bool.true_and, Bool.and_true, Bool.false_and, Bool.and_false, Bool.or_true, Bool.true_or, Bool.or_false, Bool.false_or]; done))))) | ((with_reducible apply ev_ifE2); (focus ((array_get_dec; done))); (focus ((first | (with_reducible rfl) | (with_reducible assumption) | exact Bool.not_true | exact Bool.not_false | exact decide_eq_true (by first | (with_reducible assumption) | omega) | exact decide_eq_false (by first | (with_reducible assumption) | omega) | exact nd_t (by first | (with_reducible assumption) | omega) | exact nd_f (by first | (with_reducible assumption) | omega) | exact nb_t (by first | (with_reducible assumption) | omega) | exact nb_f (by first | (with_reducible assumption) | omega) | (simp only [decide_true, decide_false, Bool.not_true, Bool.not_false, Bool.true_and, Bool.and_true, Bool.false_and, Bool.and_false, Bool.or_true, Bool.true_or, Bool.or_false, Bool.false_or]; done))))) | ((with_reducible apply ev_ifF1); (focus ((array_get_dec; done))); (focus ((first | (with_reducible rfl) | (with_reducible assumption) | exact Bool.not_true | exact Bool.not_false | exact decide_eq_true (by first | (with_reducible assumption) | omega) | exact decide_eq_false (by first | (with_reducible assumption) | omega) | exact nd_t (by first | (with_reducible assumption) | omega) | exact nd_f (by first | (with_reducible assumption) | omega) | exact nb_t (by first | (with_reducible assumption) | omega) | exact nb_f (by first | (with_reducible assumption) | omega) | (simp only [decide_true, decide_false, Bool.not_true, Bool.not_false, Bool.true_and, Bool.and_true, Bool.false_and, Bool.and_false, Bool.or_true, Bool.true_or, Bool.or_false, Bool.false_or]; done))))) | ((with_reducible apply ev_ifF2); (focus ((array_get_dec; done))); (focus ((first | (with_reducible rfl) | (with_reducible assumption) | exact Bool.not_true | exact Bool.not_false | exact decide_eq_true (by first | (with_reducible assumption) | omega) | exact decide_eq_false (by first | (with_reducible assumption) | omega) | exact nd_t (by first | (with_reducible assumption) | omega) | exact nd_f (by first | (with_reducible assumption) | omega) | exact nb_t (by first | (with_reducible assumption) | omega) | exact nb_f (by first | (with_reducible assumption) | omega) | (simp only [decide_true, decide_false, Bool.not_true, Bool.not_false, Bool.true_and, Bool.and_true, Bool.false_and, Bool.and_false, Bool.or_true, Bool.true_or, Bool.or_false, Bool.false_or]; done)))))
  | (with_reducible apply ev_and) | (with_reducible apply ev_or) | (with_reducible apply ev_frz) | (with_reducible apply ev_tup) | (with_reducible apply ev_lst) | (with_reducible apply ev_opNF) | (with_reducible apply ev_op2F) | (with_reducible apply ev_callB) | (with_reducible apply ev_starA) | (with_reducible apply ev_permA) | (with_reducible apply ev_app) | (with_reducible apply ev_ext) | (with_reducible apply ev_pop) | (with_reducible apply ev_rem) | (with_reducible apply ev_aPart) | (with_reducible apply ev_sl) | (with_reducible apply ev_ixT) | (with_reducible apply ev_andE) | (with_reducible apply ev_orE) | (with_reducible apply ev_notE) | (with_reducible apply ev_ifE) | (with_reducible apply ev_consMd) | (with_reducible apply ev_consMf) | (with_reducible apply ev_rng1) | (with_reducible apply ev_seqI) | (with_reducible apply ev_lrg1) | (with_reducible apply ev_lrg2) | (with_reducible apply ev_mk)
  | (with_reducible apply dv_addL) | (with_reducible apply dv_addT) | (with_reducible apply dv_cat)
  | (with_reducible exact dv_eqI _ _) | (with_reducible exact dv_neI _ _) | (with_reducible exact dv_eqS _ _) | (with_reducible exact dv_neS _ _)
  | ((with_reducible show eqD _ _ = some _); exact dv_eqS _ _) | ((with_reducible show neD _ _ = some _); exact dv_neS _ _)
  | (with_reducible exact datAll_dsA _ _ _ (by rfl)) | (with_reducible exact datAll_ds _)
  | ((with_reducible show _ ≤ _); sizeOf_list_dec) | ((with_reducible show _ < _); sizeOf_list_dec)
  | ((with_reducible show (_ : Rho) = _); first | (dsimp only [List.set]; done) | exact rfl)
  | ((with_reducible show (_ : Nat) = _); exact rfl)
  | exact (rfl : _ = some _) | exact (rfl : _ = true) | exact (rfl : _ = false)
  | (intro _))
local macro_rules | `(tactic| array_mem_dec) => `(tactic| repeat' first
  | with_reducible assumption
  | (with_reducible exact ev_next) | (with_reducible exact ev_raise0)
  | ((with_reducible apply ev_seqN); (focus (first | ((with_reducible apply ev_asg); (array_get_dec; done)) | ((with_reducible apply ev_asgM); (array_get_dec; done)) | ((with_reducible apply ev_par); (array_get_dec; done)) | ((with_reducible apply ev_drop); (array_get_dec; done)) | ((with_reducible apply ev_aug); (array_get_dec; done)) | ((with_reducible apply ev_put); (array_get_dec; done)) | (with_reducible assumption) | ((with_reducible apply ev_ifS2); (focus ((array_get_dec; done))); (focus ((first | (with_reducible rfl) | (with_reducible assumption) | exact Bool.not_true | exact Bool.not_false | exact decide_eq_true (by first | (with_reducible assumption) | omega) | exact decide_eq_false (by first | (with_reducible assumption) | omega) | exact nd_t (by first | (with_reducible assumption) | omega) | exact nd_f (by first | (with_reducible assumption) | omega) | exact nb_t (by first | (with_reducible assumption) | omega) | exact nb_f (by first | (with_reducible assumption) | omega) | (simp only [decide_true, decide_false, Bool.not_true, Bool.not_false, Bool.true_and, Bool.and_true, Bool.false_and, Bool.and_false, Bool.or_true, Bool.true_or, Bool.or_false, Bool.false_or]; done)))); exact ev_next))); (focus (first | (dsimp only [List.set, setsR]; done) | exact rfl)))
  | ((with_reducible apply ev_seqR); (focus ((with_reducible apply ev_ifS1); (focus ((array_get_dec; done))); (focus ((first | (with_reducible rfl) | (with_reducible assumption) | exact Bool.not_true | exact Bool.not_false | exact decide_eq_true (by first | (with_reducible assumption) | omega) | exact decide_eq_false (by first | (with_reducible assumption) | omega) | exact nd_t (by first | (with_reducible assumption) | omega) | exact nd_f (by first | (with_reducible assumption) | omega) | exact nb_t (by first | (with_reducible assumption) | omega) | exact nb_f (by first | (with_reducible assumption) | omega) | (simp only [decide_true, decide_false, Bool.not_true, Bool.not_false, Bool.true_and, Bool.and_true, Bool.false_and, Bool.and_false, Bool.or_true, Bool.true_or, Bool.or_false, Bool.false_or]; done)))); ((with_reducible apply ev_ret); (array_get_dec; done)))))
  | ((with_reducible apply ev_seqX); (focus ((with_reducible apply ev_ifS1); (focus ((array_get_dec; done))); (focus ((first | (with_reducible rfl) | (with_reducible assumption) | exact Bool.not_true | exact Bool.not_false | exact decide_eq_true (by first | (with_reducible assumption) | omega) | exact decide_eq_false (by first | (with_reducible assumption) | omega) | exact nd_t (by first | (with_reducible assumption) | omega) | exact nd_f (by first | (with_reducible assumption) | omega) | exact nb_t (by first | (with_reducible assumption) | omega) | exact nb_f (by first | (with_reducible assumption) | omega) | (simp only [decide_true, decide_false, Bool.not_true, Bool.not_false, Bool.true_and, Bool.and_true, Bool.false_and, Bool.and_false, Bool.or_true, Bool.true_or, Bool.or_false, Bool.false_or]; done)))); (first | exact ev_raise0 | ((with_reducible apply ev_raise); (array_get_dec; done))))))
  | ((with_reducible apply ev_seqN); (focus ((with_reducible apply ev_ifS1); (focus ((array_get_dec; done))); (focus ((first | (with_reducible rfl) | (with_reducible assumption) | exact Bool.not_true | exact Bool.not_false | exact decide_eq_true (by first | (with_reducible assumption) | omega) | exact decide_eq_false (by first | (with_reducible assumption) | omega) | exact nd_t (by first | (with_reducible assumption) | omega) | exact nd_f (by first | (with_reducible assumption) | omega) | exact nb_t (by first | (with_reducible assumption) | omega) | exact nb_f (by first | (with_reducible assumption) | omega) | (simp only [decide_true, decide_false, Bool.not_true, Bool.not_false, Bool.true_and, Bool.and_true, Bool.false_and, Bool.and_false, Bool.or_true, Bool.true_or, Bool.or_false, Bool.false_or]; done)))); (array_mem_dec; done))); (focus (first | (dsimp only [List.set, setsR]; done) | exact rfl)))
  | ((with_reducible apply ev_ifS1); (focus ((array_get_dec; done))); (focus ((first | (with_reducible rfl) | (with_reducible assumption) | exact Bool.not_true | exact Bool.not_false | exact decide_eq_true (by first | (with_reducible assumption) | omega) | exact decide_eq_false (by first | (with_reducible assumption) | omega) | exact nd_t (by first | (with_reducible assumption) | omega) | exact nd_f (by first | (with_reducible assumption) | omega) | exact nb_t (by first | (with_reducible assumption) | omega) | exact nb_f (by first | (with_reducible assumption) | omega) | (simp only [decide_true, decide_false, Bool.not_true, Bool.not_false, Bool.true_and, Bool.and_true, Bool.false_and, Bool.and_false, Bool.or_true, Bool.true_or, Bool.or_false, Bool.false_or]; done))))) | ((with_reducible apply ev_ifS2); (focus ((array_get_dec; done))); (focus ((first | (with_reducible rfl) | (with_reducible assumption) | exact Bool.not_true | exact Bool.not_false | exact decide_eq_true (by first | (with_reducible assumption) | omega) | exact decide_eq_false (by first | (with_reducible assumption) | omega) | exact nd_t (by first | (with_reducible assumption) | omega) | exact nd_f (by first | (with_reducible assumption) | omega) | exact nb_t (by first | (with_reducible assumption) | omega) | exact nb_f (by first | (with_reducible assumption) | omega) | (simp only [decide_true, decide_false, Bool.not_true, Bool.not_false, Bool.true_and, Bool.and_true, Bool.false_and, Bool.and_false, Bool.or_true, Bool.true_or, Bool.or_false, Bool.false_or]; done)))))
  | ((with_reducible apply ev_ret); (array_get_dec; done)) | ((with_reducible apply ev_retF); (array_get_dec; done)) | ((with_reducible apply ev_asg); (array_get_dec; done)) | ((with_reducible apply ev_asgM); (array_get_dec; done)) | ((with_reducible apply ev_par); (array_get_dec; done)) | ((with_reducible apply ev_drop); (array_get_dec; done)) | ((with_reducible apply ev_aug); (array_get_dec; done)) | ((with_reducible apply ev_put); (array_get_dec; done)) | ((with_reducible apply ev_raise); (array_get_dec; done)))
/-! ### draws from a list -/
theorem of_ok {k : Nat} {ns : List Int} {xs : List D} (hb : Bx k ns) (h0 : xs ≠ []) (h1 : xs.length ≤ 1000000) (hk : k < 1000000000000) : ∃ x ns', f_law_of ns [.lst xs] = some (x, ns') ∧ x ∈ xs ∧ Bx (k + 1) ns' := by
  have hp := List.length_pos_iff.2 h0
  obtain ⟨r, ns', e, g1, g2, g3⟩ := take_ok hb (n := xs.length) (by omega) (by omega) hk
  have hr : r.toNat < xs.length := by omega
  have hg : xs[r.toNat]? = some xs[r.toNat] := List.getElem?_eq_getElem hr
  refine ⟨xs[r.toNat], ns', ?_, List.getElem_mem hr, g3⟩
  simp [f_law_of, m_law_of, Lq.runF, Lq.runB, Lq.runL, Lq.boxAt, Lq.startR, Lq.seqS, Lq.nextS, Lq.ifS, Lq.asgS, Lq.asgM, Lq.asgG, Lq.retS, Lq.retF, Lq.dropS, Lq.forS, Lq.loopS, Lq.turnS, Lq.putItem, Lq.isMB, Lq.putS1, Lq.parS, Lq.consMd, Lq.consMf', Lq.noErr, Lq.nilM, Lq.setsR, Lq.nameE, Lq.constE, Lq.op1E, Lq.op2E, Lq.opNE, Lq.opNF, Lq.op2F, Lq.lift1, Lq.lift2, Lq.liftN, Lq.res, Lq.resAll, Lq.valT, Lq.notT, Lq.andT, Lq.orT, Lq.andE, Lq.orE, Lq.notE, Lq.ifE, Lq.consA, Lq.nilA, Lq.frzE, Lq.lstF, Lq.tupE, Lq.callE, Lq.callBE, Lq.callL, Lq.callNew, Lq.slotted, Lq.datAll, Lq.appE, Lq.popE, Lq.compF, Lq.compLoop, Lq.compTurn, Lq.yesT, Lq.wipeR, Lq.backR, Lq.plainC, Lq.nameG, Lq.tupG, Lq.consG, Lq.nilG, Lq.seqI, Lq.rngI1, Lq.rngI2, Lq.enumI, Lq.zipI, Lq.isiE, Lq.slE, Lq.aPart, Lq.noPart, Lq.chainE, Lq.strM, Lq.orF, Lq.R.bind, Lq.R.thnO, Lq.raiseS, Lq.raise0S, Lq.tryS, Lq.hNil, Lq.hAs, Lq.goneS, Lq.enumA, Lq.enumK, Lq.ifF, Lq.permA, Lq.permL, Lq.D.noL, Lq.noLs, Lq.isEx, Lq.fldD, Lq.isErrD, Lq.itemsOf, Lq.onlyB, Lq.isB, Lq.D.flat, Lq.starA, Lq.extE, Lq.augS, Lq.ixTE, Lq.mvS, Lq.dfA, Lq.slotD, Lq.propD, Lq.mkE, Lq.mkE0, Lq.addD, Lq.catF, Lq.subD, Lq.mulD, Lq.fdivD, Lq.modD, Lq.powD, Lq.negD, Lq.ltD, Lq.leD, Lq.gtD, Lq.geD, Lq.eqD, Lq.neD, Lq.sameKind, Lq.isD, Lq.isntD, Lq.isNon, Lq.inD, Lq.ninD, Lq.anyEq, Lq.lenD, Lq.atD, Lq.cutD, Lq.revD, Lq.splitD, Lq.joinD, Lq.tupleD, Lq.tupleTD, Lq.listF, Lq.allD, Lq.anyD, Lq.sumD, Lq.absD, Lq.min2D, Lq.max2D, Lq.intD, Lq.strD, Lq.sortedF, Lq.isiB, Lq.tyName, Lq.notObj, Lq.D.items?, Lq.fits, L2.atI, L2.ixN, e, hg, g1, g2]
end Lw
namespace Lw
open PySem Lq
local macro_rules | `(tactic| sizeOf_list_dec) => `(tactic| first | omega | (simp only [List.length_append, List.length_map, List.length_cons, List.length_nil, List.length_take, List.length_drop, List.length_reverse, List.length_set, List.length_replicate, List.length_singleton, List.length_range]; omega) | (simp; omega))
local macro_rules | `(tactic| array_get_dec) => `(tactic| repeat' first
  | with_reducible assumption
  | (with_reducible exact ev_const) | (with_reducible exact ev_nilA) | (with_reducible exact ev_nilM) | (with_reducible exact ev_noPart) | (with_reducible exact ev_dfA) | (with_reducible exact ev_mk0)
  | ((with_reducible apply ev_name); (exact rfl)) | ((with_reducible apply ev_nameM); (exact rfl)) | ((with_reducible apply ev_nameB); (exact rfl))
  | (with_reducible apply ev_consA) | (with_reducible apply ev_op2) | (with_reducible apply ev_op1) | (with_reducible apply ev_opN) | (with_reducible apply ev_call) | (with_reducible apply ev_val) | (with_reducible apply ev_notT)
  | ((with_reducible apply ev_and1); (focus ((array_get_dec; done))); (focus ((first | (with_reducible rfl) | (with_reducible assumption) | exact Bool.not_true | exact Bool.not_false | exact decide_eq_true (by first | (with_reducible assumption) | omega) | exact decide_eq_false (by first | (with_reducible assumption) | omega) | exact nd_t (by first | (with_reducible assumption) | omega) | exact nd_f (by first | (with_reducible assumption) | omega) | exact nb_t (by first | (with_reducible assumption) | omega) | exact nb_f (by first | (with_reducible assumption) | omega) | (simp only [decide_true, decide_false, Bool.not_true, Bool.not_false, Bool.true_and, Bool.and_true, Bool.false_and, Bool.and_false, Bool.or_true, Bool.true_or, Bool.or_false, Bool.false_or]; done))))) | ((with_reducible apply ev_and2); (focus ((array_get_dec; done))); (focus ((first | (with_reducible rfl) | (with_reducible assumption) | exact Bool.not_true | exact Bool.not_false | exact decide_eq_true (by first | (with_reducible assumption) | omega) | exact decide_eq_false (by first | (with_reducible assumption) | omega) | exact nd_t (by first | (with_reducible assumption) | omega) | exact nd_f (by first | (with_reducible assumption) | omega) | exact nb_t (by first | (with_reducible assumption) | omega) | exact nb_f (by first | (with_reducible assumption) | omega) | (simp only [decide_true, decide_false, Bool.not_true, Bool.not_false, Bool.true_and, Bool.and_true, Bool.false_and, Bool.and_false, Bool.or_true, Bool.true_or, Bool.or_false, Bool.false_or]; done))))) | ((with_reducible apply ev_or1); (focus ((array_get_dec; done))); (focus ((first | (with_reducible rfl) | (with_reducible assumption) | exact Bool.not_true | exact Bool.not_false | exact decide_eq_true (by first | (with_reducible assumption) | omega) | exact decide_eq_false (by first | (with_reducible assumption) | omega) | exact nd_t (by first | (with_reducible assumption) | omega) | exact nd_f (by first | (with_reducible assumption) | omega) | exact nb_t (by first | (with_reducible assumption) | omega) | exact nb_f (by first | (with_reducible assumption) | omega) | (simp only [decide_true, decide_false, Bool.not_true, Bool.not_false, Bool.true_and, Bool.and_true, Bool.false_and, Bool.and_false, Bool.or_true, Bool.true_or, Bool.or_false, Bool.false_or]; done))))) | ((with_reducible apply ev_or2); (focus ((array_get_dec; done))); (focus ((first | (with_reducible rfl) | (with_reducible assumption) | exact Bool.not_true | exact Bool.not_false | exact decide_eq_true (by first | (with_reducible assumption) | omega) | exact decide_eq_false (by first | (with_reducible assumption) | omega) | exact nd_t (by first | (with_reducible assumption) | omega) | exact nd_f (by first | (with_reducible assumption) | omega) | exact nb_t (by first | (with_reducible assumption) | omega) | exact nb_f (by first | (with_reducible assumption) | omega) | (simp only [decide_true, decide_false, Bool.not_true, Bool.not_false, Bool.true_and, Bool.and_true, Bool.false_and, Bool.and_false, Bool.or_true, Bool.true_or, Bool.or_false, Bool.false_or]; done))))) | ((with_reducible apply ev_ifE1); (focus ((array_get_dec; done))); (focus ((first | (with_reducible rfl) | (with_reducible assumption) | exact Bool.not_true | exact Bool.not_false | exact decide_eq_true (by first | (with_reducible assumption) | omega) | exact decide_eq_false (by first | (with_reducible assumption) | omega) | exact nd_t (by first | (with_reducible assumption) | omega) | exact nd_f (by first | (with_reducible assumption) | omega) | exact nb_t (by first | (with_reducible assumption) | omega) | exact nb_f (by first | (with_reducible assumption) | omega) | (simp only [decide_true, decide_false, Bool.not_true, Bool.not_false, Bool.true_and, Bool.and_true, Bool.false_and, Bool.and_false, Bool.or_true, Bool.true_or, Bool.or_false, Bool.false_or]; done))))) | ((with_reducible apply ev_ifE2); (focus ((array_get_dec; done))); (focus ((first | (with_reducible rfl) | (with_reducible assumption) | exact Bool.not_true | exact Bool.not_false | exact decide_eq_true (by first | (with_reducible assumption) | omega) | exact decide_eq_false (by first | (with_reducible assumption) | omega) | exact nd_t (by first | (with_reducible assumption) | omega) | exact nd_f (by first | (with_reducible assumption) | omega) | exact nb_t (by first | (with_reducible assumption) | omega) | exact nb_f (by first | (with_reducible assumption) | omega) | (simp only [decide_true, decide_false, Bool.not_true, Bool.not_false, Bool.true_and, Bool.and_true, Bool.false_and, Bool.and_false, Bool.or_true, Bool.true_or, Bool.or_false, Bool.false_or]; done))))) | ((with_reducible apply ev_ifF1); (focus ((array_get_dec; done))); (focus ((first | (with_reducible rfl) | (with_reducible assumption) | exact Bool.not_true | exact Bool.not_false | exact decide_eq_true (by first | (with_reducible assumption) | omega) | exact decide_eq_false (by first | (with_reducible assumption) | omega) | exact nd_t (by first | (with_reducible assumption) | omega) | exact nd_f (by first | (with_reducible assumption) | omega) | exact nb_t (by first | (with_reducible assumption) | omega) | exact nb_f (by first | (with_reducible assumption) | omega) | (simp only [decide_true, decide_false, Bool.not_true, Bool.not_false, Bool.true_and, Bool.and_true, Bool.false_and, Bool.and_false, Bool.or_true, Bool.true_or, Bool.or_false, Bool.false_or]; done))))) | ((with_reducible apply ev_ifF2); (focus ((array_get_dec; done))); (focus ((first | (with_reducible rfl) | (with_reducible assumption) | exact Bool.not_true | exact Bool.not_false | exact decide_eq_true (by first | (with_reducible assumption) | omega) | exact decide_eq_false (by first | (with_reducible assumption) | omega) | exact nd_t (by first | (with_reducible assumption) | omega) | exact nd_f (by first | (with_reducible assumption) | omega) | exact nb_t (by first | (with_reducible assumption) | omega) | exact nb_f (by first | (with_reducible assumption) | omega) | (simp only [decide_true, decide_false, Bool.not_true, Bool.not_false, Bool.true_and, Bool.and_true, Bool.false_and, Bool.and_false, Bool.or_true, Bool.true_or, Bool.or_false, Bool.false_or]; done)))))
  | (with_reducible apply ev_and) | (with_reducible apply ev_or) | (with_reducible apply ev_frz) | (with_reducible apply ev_tup) | (with_reducible apply ev_lst) | (with_reducible apply ev_opNF) | (with_reducible apply ev_op2F) | (with_reducible apply ev_callB) | (with_reducible apply ev_starA) | (with_reducible apply ev_permA) | (with_reducible apply ev_app) | (with_reducible apply ev_ext) | (with_reducible apply ev_pop) | (with_reducible apply ev_rem) | (with_reducible apply ev_aPart) | (with_reducible apply ev_sl) | (with_reducible apply ev_ixT) | (with_reducible apply ev_andE) | (with_reducible apply ev_orE) | (with_reducible apply ev_notE) | (with_reducible apply ev_ifE) | (with_reducible apply ev_consMd) | (with_reducible apply ev_consMf) | (with_reducible apply ev_rng1) | (with_reducible apply ev_seqI) | (with_reducible apply ev_lrg1) | (with_reducible apply ev_lrg2) | (with_reducible apply ev_mk)
  | (with_reducible apply dv_addL) | (with_reducible apply dv_addT) | (with_reducible apply dv_cat)
  | (with_reducible exact dv_eqI _ _) | (with_reducible exact dv_neI _ _) | (with_reducible exact dv_eqS _ _) | (with_reducible exact dv_neS _ _)
  | ((with_reducible show eqD _ _ = some _); exact dv_eqS _ _) | ((with_reducible show neD _ _ = some _); exact dv_neS _ _)
  | (with_reducible exact datAll_dsA _ _ _ (by rfl)) | (with_reducible exact datAll_ds _)
  | ((with_reducible show _ ≤ _); sizeOf_list_dec) | ((with_reducible show _ < _); sizeOf_list_dec)
  | ((with_reducible show (_ : Rho) = _); first | (dsimp only [List.set]; done) | exact rfl)
  | ((with_reducible show (_ : Nat) = _); exact rfl)
  | exact (rfl : _ = some _) | exact (rfl : _ = true) | exact (rfl : _ = false)
  | (intro _))
local macro_rules | `(tactic| array_mem_dec) => `(tactic| repeat' first
  | with_reducible assumption
  | (with_reducible exact ev_next) | (with_reducible exact ev_raise0)
  | ((with_reducible apply ev_seqN); (focus (first | ((with_reducible apply ev_asg); (array_get_dec; done)) | ((with_reducible apply ev_asgM); (array_get_dec; done)) | ((with_reducible apply ev_par); (array_get_dec; done)) | ((with_reducible apply ev_drop); (array_get_dec; done)) | ((with_reducible apply ev_aug); (array_get_dec; done)) | ((with_reducible apply ev_put); (array_get_dec; done)) | (with_reducible assumption) | ((with_reducible apply ev_ifS2); (focus ((array_get_dec; done))); (focus ((first | (with_reducible rfl) | (with_reducible assumption) | exact Bool.not_true | exact Bool.not_false | exact decide_eq_true (by first | (with_reducible assumption) | omega) | exact decide_eq_false (by first | (with_reducible assumption) | omega) | exact nd_t (by first | (with_reducible assumption) | omega) | exact nd_f (by first | (with_reducible assumption) | omega) | exact nb_t (by first | (with_reducible assumption) | omega) | exact nb_f (by first | (with_reducible assumption) | omega) | (simp only [decide_true, decide_false, Bool.not_true, Bool.not_false, Bool.true_and, Bool.and_true, Bool.false_and, Bool.and_false, Bool.or_true, Bool.true_or, Bool.or_false, Bool.false_or]; done)))); exact ev_next))); (focus (first | (dsimp only [List.set, setsR]; done) | exact rfl)))
  | ((with_reducible apply ev_seqR); (focus ((with_reducible apply ev_ifS1); (focus ((array_get_dec; done))); (focus ((first | (with_reducible rfl) | (with_reducible assumption) | exact Bool.not_true | exact Bool.not_false | exact decide_eq_true (by first | (with_reducible assumption) | omega) | exact decide_eq_false (by first | (with_reducible assumption) | omega) | exact nd_t (by first | (with_reducible assumption) | omega) | exact nd_f (by first | (with_reducible assumption) | omega) | exact nb_t (by first | (with_reducible assumption) | omega) | exact nb_f (by first | (with_reducible assumption) | omega) | (simp only [decide_true, decide_false, Bool.not_true, Bool.not_false, Bool.true_and, Bool.and_true, Bool.false_and, Bool.and_false, Bool.or_true, Bool.true_or, Bool.or_false, Bool.false_or]; done)))); ((with_reducible apply ev_ret); (array_get_dec; done)))))
  | ((with_reducible apply ev_seqX); (focus ((with_reducible apply ev_ifS1); (focus ((array_get_dec; done))); (focus ((first | (with_reducible rfl) | (with_reducible assumption) | exact Bool.not_true | exact Bool.not_false | exact decide_eq_true (by first | (with_reducible assumption) | omega) | exact decide_eq_false (by first | (with_reducible assumption) | omega) | exact nd_t (by first | (with_reducible assumption) | omega) | exact nd_f (by first | (with_reducible assumption) | omega) | exact nb_t (by first | (with_reducible assumption) | omega) | exact nb_f (by first | (with_reducible assumption) | omega) | (simp only [decide_true, decide_false, Bool.not_true, Bool.not_false, Bool.true_and, Bool.and_true, Bool.false_and, Bool.and_false, Bool.or_true, Bool.true_or, Bool.or_false, Bool.false_or]; done)))); (first | exact ev_raise0 | ((with_reducible apply ev_raise); (array_get_dec; done))))))
  | ((with_reducible apply ev_seqN); (focus ((with_reducible apply ev_ifS1); (focus ((array_get_dec; done))); (focus ((first | (with_reducible rfl) | (with_reducible assumption) | exact Bool.not_true | exact Bool.not_false | exact decide_eq_true (by first | (with_reducible assumption) | omega) | exact decide_eq_false (by first | (with_reducible assumption) | omega) | exact nd_t (by first | (with_reducible assumption) | omega) | exact nd_f (by first | (with_reducible assumption) | omega) | exact nb_t (by first | (with_reducible assumption) | omega) | exact nb_f (by first | (with_reducible assumption) | omega) | (simp only [decide_true, decide_false, Bool.not_true, Bool.not_false, Bool.true_and, Bool.and_true, Bool.false_and, Bool.and_false, Bool.or_true, Bool.true_or, Bool.or_false, Bool.false_or]; done)))); (array_mem_dec; done))); (focus (first | (dsimp only [List.set, setsR]; done) | exact rfl)))
  | ((with_reducible apply ev_ifS1); (focus ((array_get_dec; done))); (focus ((first | (with_reducible rfl) | (with_reducible assumption) | exact Bool.not_true | exact Bool.not_false | exact decide_eq_true (by first | (with_reducible assumption) | omega) | exact decide_eq_false (by first | (with_reducible assumption) | omega) | exact nd_t (by first | (with_reducible assumption) | omega) | exact nd_f (by first | (with_reducible assumption) | omega) | exact nb_t (by first | (with_reducible assumption) | omega) | exact nb_f (by first | (with_reducible assumption) | omega) | (simp only [decide_true, decide_false, Bool.not_true, Bool.not_false, Bool.true_and, Bool.and_true, Bool.false_and, Bool.and_false, Bool.or_true, Bool.true_or, Bool.or_false, Bool.false_or]; done))))) | ((with_reducible apply ev_ifS2); (focus ((array_get_dec; done))); (focus ((first | (with_reducible rfl) | (with_reducible assumption) | exact Bool.not_true | exact Bool.not_false | exact decide_eq_true (by first | (with_reducible assumption) | omega) | exact decide_eq_false (by first | (with_reducible assumption) | omega) | exact nd_t (by first | (with_reducible assumption) | omega) | exact nd_f (by first | (with_reducible assumption) | omega) | exact nb_t (by first | (with_reducible assumption) | omega) | exact nb_f (by first | (with_reducible assumption) | omega) | (simp only [decide_true, decide_false, Bool.not_true, Bool.not_false, Bool.true_and, Bool.and_true, Bool.false_and, Bool.and_false, Bool.or_true, Bool.true_or, Bool.or_false, Bool.false_or]; done)))))
  | ((with_reducible apply ev_ret); (array_get_dec; done)) | ((with_reducible apply ev_retF); (array_get_dec; done)) | ((with_reducible apply ev_asg); (array_get_dec; done)) | ((with_reducible apply ev_asgM); (array_get_dec; done)) | ((with_reducible apply ev_par); (array_get_dec; done)) | ((with_reducible apply ev_drop); (array_get_dec; done)) | ((with_reducible apply ev_aug); (array_get_dec; done)) | ((with_reducible apply ev_put); (array_get_dec; done)) | ((with_reducible apply ev_raise); (array_get_dec; done)))
/-! ### different ones drawn -/
theorem pick_ok {k : Nat} {ns : List Int} {xs : List D} {c : Int} (hb : Bx k ns) (h0 : 0 ≤ c) (h1 : xs.length ≤ 1000) (hk : k < 1000000000) : ∃ ys ns', f_law_pick ns [.lst xs, .int c] = some (.lst ys, ns') ∧ (∃ zs, (ys ++ zs).Perm xs) ∧ ys.length = min c.toNat xs.length ∧ Bx (k + min c.toNat xs.length) ns' := by
  obtain ⟨ρ', el, hi⟩ := loop_inv (body := turnS (nameG 5) m_law_pick_b1) (fun j ρ => j ≤ min c.toNat xs.length → ∃ ns ys zs cc, ρ = [.b ns, .d (.lst xs), .d (.int c), .m zs, .m ys, cc] ∧ (ys ++ zs).Perm xs ∧ ys.length = j ∧ Bx (k + j) ns) (rng 0 (min c.toNat xs.length)) 0
    [.b ns, .d (.lst xs), .d (.int c), .m xs, .m [], .no] (fun _ => ⟨ns, [], xs, .no, rfl, List.Perm.refl _, rfl, hb⟩) (fun j d ρ hj hi => by
      obtain ⟨hj1, rfl⟩ := rng_at hj
      obtain ⟨ns1, ys, zs, cc, rfl, hp, hl, hb1⟩ := hi (by omega)
      have hle := hp.length_eq
      rw [List.length_append] at hle
      have hz : 0 < zs.length := by omega
      obtain ⟨r, ns2, e, g1, g2, g3⟩ := take_ok hb1 (n := zs.length) (by omega) (by omega) (by omega)
      have hr : r.toNat < zs.length := by omega
      have hg : zs[r.toNat]? = some zs[r.toNat] := List.getElem?_eq_getElem hr
      have hr2 : r < 1000000 := by omega
      have hf : ys.length + 1 ≤ 1000000 := by omega
      refine ⟨[.b ns2, .d (.lst xs), .d (.int c), .m (zs.eraseIdx r.toNat), .m (ys ++ [zs[r.toNat]]), .d (.int (0 + (j : Nat)))], ?_, fun _ => ⟨ns2, ys ++ [zs[r.toNat]], zs.eraseIdx r.toNat, _, rfl, ?_, by rw [List.length_append, List.length_singleton]; omega, by rw [show k + (0 + j + 1) = k + (0 + j) + 1 by omega]; exact g3⟩⟩
      · simp [m_law_pick_b1, Lq.runF, Lq.runB, Lq.runL, Lq.boxAt, Lq.startR, Lq.seqS, Lq.nextS, Lq.ifS, Lq.asgS, Lq.asgM, Lq.asgG, Lq.retS, Lq.retF, Lq.dropS, Lq.forS, Lq.loopS, Lq.turnS, Lq.putItem, Lq.isMB, Lq.putS1, Lq.parS, Lq.consMd, Lq.consMf', Lq.noErr, Lq.nilM, Lq.setsR, Lq.nameE, Lq.constE, Lq.op1E, Lq.op2E, Lq.opNE, Lq.opNF, Lq.op2F, Lq.lift1, Lq.lift2, Lq.liftN, Lq.res, Lq.resAll, Lq.valT, Lq.notT, Lq.andT, Lq.orT, Lq.andE, Lq.orE, Lq.notE, Lq.ifE, Lq.consA, Lq.nilA, Lq.frzE, Lq.lstF, Lq.tupE, Lq.callE, Lq.callBE, Lq.callL, Lq.callNew, Lq.slotted, Lq.datAll, Lq.appE, Lq.popE, Lq.compF, Lq.compLoop, Lq.compTurn, Lq.yesT, Lq.wipeR, Lq.backR, Lq.plainC, Lq.nameG, Lq.tupG, Lq.consG, Lq.nilG, Lq.seqI, Lq.rngI1, Lq.rngI2, Lq.enumI, Lq.zipI, Lq.isiE, Lq.slE, Lq.aPart, Lq.noPart, Lq.chainE, Lq.strM, Lq.orF, Lq.R.bind, Lq.R.thnO, Lq.raiseS, Lq.raise0S, Lq.tryS, Lq.hNil, Lq.hAs, Lq.goneS, Lq.enumA, Lq.enumK, Lq.ifF, Lq.permA, Lq.permL, Lq.D.noL, Lq.noLs, Lq.isEx, Lq.fldD, Lq.isErrD, Lq.itemsOf, Lq.onlyB, Lq.isB, Lq.D.flat, Lq.starA, Lq.extE, Lq.augS, Lq.ixTE, Lq.mvS, Lq.dfA, Lq.slotD, Lq.propD, Lq.mkE, Lq.mkE0, Lq.addD, Lq.catF, Lq.subD, Lq.mulD, Lq.fdivD, Lq.modD, Lq.powD, Lq.negD, Lq.ltD, Lq.leD, Lq.gtD, Lq.geD, Lq.eqD, Lq.neD, Lq.sameKind, Lq.isD, Lq.isntD, Lq.isNon, Lq.inD, Lq.ninD, Lq.anyEq, Lq.lenD, Lq.atD, Lq.cutD, Lq.revD, Lq.splitD, Lq.joinD, Lq.tupleD, Lq.tupleTD, Lq.listF, Lq.allD, Lq.anyD, Lq.sumD, Lq.absD, Lq.min2D, Lq.max2D, Lq.intD, Lq.strD, Lq.sortedF, Lq.isiB, Lq.tyName, Lq.notObj, Lq.D.items?, Lq.fits, L2.atI, L2.ixN, e, hg, g1, g2, hr2, hf]
      · rw [List.append_assoc]
        exact ((erase_perm hr).append_left ys).trans hp)
  rw [rng_len, Nat.zero_add] at hi
  obtain ⟨ns1, ys, zs, cc, rfl, hp, hl, hb1⟩ := hi (Nat.le_refl _)
  refine ⟨ys, ns1, ?_, ⟨zs, hp⟩, hl, hb1⟩
  have em : (if c ≤ (xs.length : Int) then c else (xs.length : Int)) = ((min c.toNat xs.length : Nat) : Int) := by split <;> omega
  have em2 : (if (xs.length : Int) < c then (xs.length : Int) else c) = ((min c.toNat xs.length : Nat) : Int) := by split <;> omega
  have eo : okR ((min c.toNat xs.length : Nat) : Int) = true := okR_small (by omega) (by omega)
  rw [← Int.toNat_natCast (min c.toNat xs.length), ← em2] at el
  rw [← em2] at eo
  simp [f_law_pick, m_law_pick, m_law_pick_l1, Lq.runF, Lq.runB, Lq.runL, Lq.boxAt, Lq.startR, Lq.seqS, Lq.nextS, Lq.ifS, Lq.asgS, Lq.asgM, Lq.asgG, Lq.retS, Lq.retF, Lq.dropS, Lq.forS, Lq.putItem, Lq.isMB, Lq.putS1, Lq.parS, Lq.consMd, Lq.consMf', Lq.noErr, Lq.nilM, Lq.setsR, Lq.nameE, Lq.constE, Lq.op1E, Lq.op2E, Lq.opNE, Lq.opNF, Lq.op2F, Lq.lift1, Lq.lift2, Lq.liftN, Lq.res, Lq.resAll, Lq.valT, Lq.notT, Lq.andT, Lq.orT, Lq.andE, Lq.orE, Lq.notE, Lq.ifE, Lq.consA, Lq.nilA, Lq.frzE, Lq.lstF, Lq.tupE, Lq.callE, Lq.callBE, Lq.callL, Lq.callNew, Lq.slotted, Lq.datAll, Lq.appE, Lq.popE, Lq.compF, Lq.yesT, Lq.wipeR, Lq.backR, Lq.plainC, Lq.nameG, Lq.tupG, Lq.consG, Lq.nilG, Lq.seqI, Lq.rngI1, Lq.rngI2, Lq.enumI, Lq.zipI, Lq.isiE, Lq.slE, Lq.aPart, Lq.noPart, Lq.chainE, Lq.strM, Lq.orF, Lq.R.bind, Lq.R.thnO, Lq.raiseS, Lq.raise0S, Lq.tryS, Lq.hNil, Lq.hAs, Lq.goneS, Lq.enumA, Lq.enumK, Lq.ifF, Lq.permA, Lq.permL, Lq.D.noL, Lq.noLs, Lq.isEx, Lq.fldD, Lq.isErrD, Lq.itemsOf, Lq.onlyB, Lq.isB, Lq.D.flat, Lq.starA, Lq.extE, Lq.augS, Lq.ixTE, Lq.mvS, Lq.dfA, Lq.slotD, Lq.propD, Lq.mkE, Lq.mkE0, Lq.addD, Lq.catF, Lq.subD, Lq.mulD, Lq.fdivD, Lq.modD, Lq.powD, Lq.negD, Lq.ltD, Lq.leD, Lq.gtD, Lq.geD, Lq.eqD, Lq.neD, Lq.sameKind, Lq.isD, Lq.isntD, Lq.isNon, Lq.inD, Lq.ninD, Lq.anyEq, Lq.lenD, Lq.atD, Lq.cutD, Lq.revD, Lq.splitD, Lq.joinD, Lq.tupleD, Lq.tupleTD, Lq.listF, Lq.allD, Lq.anyD, Lq.sumD, Lq.absD, Lq.min2D, Lq.max2D, Lq.intD, Lq.strD, Lq.sortedF, Lq.isiB, Lq.tyName, Lq.notObj, Lq.D.items?, Lq.fits, L2.atI, L2.ixN, el, eo]
end Lw
namespace Lw
open PySem Lq
local macro_rules | `(tactic| sizeOf_list_dec) => `(tactic| first | omega | (simp only [List.length_append, List.length_map, List.length_cons, List.length_nil, List.length_take, List.length_drop, List.length_reverse, List.length_set, List.length_replicate, List.length_singleton, List.length_range]; omega) | (simp; omega))
local macro_rules | `(tactic| array_get_dec) => `(tactic| repeat' first
  | with_reducible assumption
  | (with_reducible exact ev_const) | (with_reducible exact ev_nilA) | (with_reducible exact ev_nilM) | (with_reducible exact ev_noPart) | (with_reducible exact ev_dfA) | (with_reducible exact ev_mk0)
  | ((with_reducible apply ev_name); (exact rfl)) | ((with_reducible apply ev_nameM); (exact rfl)) | ((with_reducible apply ev_nameB); (exact rfl))
  | (with_reducible apply ev_consA) | (with_reducible apply ev_op2) | (with_reducible apply ev_op1) | (with_reducible apply ev_opN) | (with_reducible apply ev_call) | (with_reducible apply ev_val) | (with_reducible apply ev_notT)
  | ((with_reducible apply ev_and1); (focus ((array_get_dec; done))); (focus ((first | (with_reducible rfl) | (with_reducible assumption) | exact Bool.not_true | exact Bool.not_false | exact decide_eq_true (by first | (with_reducible assumption) | omega) | exact decide_eq_false (by first | (with_reducible assumption) | omega) | exact nd_t (by first | (with_reducible assumption) | omega) | exact nd_f (by first | (with_reducible assumption) | omega) | exact nb_t (by first | (with_reducible assumption) | omega) | exact nb_f (by first | (with_reducible assumption) | omega) | (simp only [decide_true, decide_false, Bool.not_true, Bool.not_false, Bool.true_and, Bool.and_true, Bool.false_and, Bool.and_false, Bool.or_true, Bool.true_or, Bool.or_false, Bool.false_or]; done))))) | ((with_reducible apply ev_and2); (focus ((array_get_dec; done))); (focus ((first | (with_reducible rfl) | (with_reducible assumption) | exact Bool.not_true | exact Bool.not_false | exact decide_eq_true (by first | (with_reducible assumption) | omega) | exact decide_eq_false (by first | (with_reducible assumption) | omega) | exact nd_t (by first | (with_reducible assumption) | omega) | exact nd_f (by first | (with_reducible assumption) | omega) | exact nb_t (by first | (with_reducible assumption) | omega) | exact nb_f (by first | (with_reducible assumption) | omega) | (simp only [decide_true, decide_false, Bool.not_true, Bool.not_false, Bool.true_and, Bool.and_true, Bool.false_and, Bool.and_false, Bool.or_true, Bool.true_or, Bool.or_false, Bool.false_or]; done))))) | ((with_reducible apply ev_or1); (focus ((array_get_dec; done))); (focus ((first | (with_reducible rfl) | (with_reducible assumption) | exact Bool.not_true | exact Bool.not_false | exact decide_eq_true (by first | (with_reducible assumption) | omega) | exact decide_eq_false (by first | (with_reducible assumption) | omega) | exact nd_t (by first | (with_reducible assumption) | omega) | exact nd_f (by first | (with_reducible assumption) | omega) | exact nb_t (by first | (with_reducible assumption) | omega) | exact nb_f (by first | (with_reducible assumption) | omega) | (simp only [decide_true, decide_false, Bool.not_true, Bool.not_false, Bool.true_and, Bool.and_true, Bool.false_and, Bool.and_false, Bool.or_true, Bool.true_or, Bool.or_false, Bool.false_or]; done))))) | ((with_reducible apply ev_or2); (focus ((array_get_dec; done))); (focus ((first | (with_reducible rfl) | (with_reducible assumption) | exact Bool.not_true | exact Bool.not_false | exact decide_eq_true (by first | (with_reducible assumption) | omega) | exact decide_eq_false (by first | (with_reducible assumption) | omega) | exact nd_t (by first | (with_reducible assumption) | omega) | exact nd_f (by first | (with_reducible assumption) | omega) | exact nb_t (by first | (with_reducible assumption) | omega) | exact nb_f (by first | (with_reducible assumption) | omega) | (simp only [decide_true, decide_false, Bool.not_true, Bool.not_false, Bool.true_and, Bool.and_true, Bool.false_and, Bool.and_false, Bool.or_true, Bool.true_or, Bool.or_false, Bool.false_or]; done))))) | ((with_reducible apply ev_ifE1); (focus ((array_get_dec; done))); (focus ((first | (with_reducible rfl) | (with_reducible assumption) | exact Bool.not_true | exact Bool.not_false | exact decide_eq_true (by first | (with_reducible assumption) | omega) | exact decide_eq_false (by first | (with_reducible assumption) | omega) | exact nd_t (by first | (with_reducible assumption) | omega) | exact nd_f (by first | (with_reducible assumption) | omega) | exact nb_t (by first | (with_reducible assumption) | omega) | exact nb_f (by first | (with_reducible assumption) | omega) | (simp only [decide_true, decide_false, Bool.not_true, Bool.not_false, Bool.true_and, Bool.and_true, Bool.false_and, Bool.and_false, Bool.or_true, Bool.true_or, Bool.or_false, Bool.false_or]; done))))) | ((with_reducible apply ev_ifE2); (focus ((array_get_dec; done))); (focus ((first | (with_reducible rfl) | (with_reducible assumption) | exact Bool.not_true | exact Bool.not_false | exact decide_eq_true (by first | (with_reducible assumption) | omega) | exact decide_eq_false (by first | (with_reducible assumption) | omega) | exact nd_t (by first | (with_reducible assumption) | omega) | exact nd_f (by first | (with_reducible assumption) | omega) | exact nb_t (by first | (with_reducible assumption) | omega) | exact nb_f (by first | (with_reducible assumption) | omega) | (simp only [decide_true, decide_false, Bool.not_true, Bool.not_false, Bool.true_and, Bool.and_true, Bool.false_and, Bool.and_false, Bool.or_true, Bool.true_or, Bool.or_false, Bool.false_or]; done))))) | ((with_reducible apply ev_ifF1); (focus ((array_get_dec; done))); (focus ((first | (with_reducible rfl) | (with_reducible assumption) | exact Bool.not_true | exact Bool.not_false | exact decide_eq_true (by first | (with_reducible assumption) | omega) | exact decide_eq_false (by first | (with_reducible assumption) | omega) | exact nd_t (by first | (with_reducible assumption) | omega) | exact nd_f (by first | (with_reducible assumption) | omega) | exact nb_t (by first | (with_reducible assumption) | omega) | exact nb_f (by first | (with_reducible assumption) | omega) | (simp only [decide_true, decide_false, Bool.not_true, Bool.not_false, Bool.true_and, Bool.and_true, Bool.false_and, Bool.and_false, Bool.or_true, Bool.true_or, Bool.or_false, Bool.false_or]; done))))) | ((with_reducible apply ev_ifF2); (focus ((array_get_dec; done))); (focus ((first | (with_reducible rfl) | (with_reducible assumption) | exact Bool.not_true | exact Bool.not_false | exact decide_eq_true (by first | (with_reducible assumption) | omega) | exact decide_eq_false (by first | (with_reducible assumption) | omega) | exact nd_t (by first | (with_reducible assumption) | omega) | exact nd_f (by first | (with_reducible assumption) | omega) | exact nb_t (by first | (with_reducible assumption) | omega) | exact nb_f (by first | (with_reducible assumption) | omega) | (simp only [decide_true, decide_false, Bool.not_true, Bool.not_false, Bool.true_and, Bool.and_true, Bool.false_and, Bool.and_false, Bool.or_true, Bool.true_or, Bool.or_false, Bool.false_or]; done)))))
  | (with_reducible apply ev_and) | (with_reducible apply ev_or) | (with_reducible apply ev_frz) | (with_reducible apply ev_tup) | (with_reducible apply ev_lst) | (with_reducible apply ev_opNF) | (with_reducible apply ev_op2F) | (with_reducible apply ev_callB) | (with_reducible apply ev_starA) | (with_reducible apply ev_permA) | (with_reducible apply ev_app) | (with_reducible apply ev_ext) | (with_reducible apply ev_pop) | (with_reducible apply ev_rem) | (with_reducible apply ev_aPart) | (with_reducible apply ev_sl) | (with_reducible apply ev_ixT) | (with_reducible apply ev_andE) | (with_reducible apply ev_orE) | (with_reducible apply ev_notE) | (with_reducible apply ev_ifE) | (with_reducible apply ev_consMd) | (with_reducible apply ev_consMf) | (with_reducible apply ev_rng1) | (with_reducible apply ev_seqI) | (with_reducible apply ev_lrg1) | (with_reducible apply ev_lrg2) | (with_reducible apply ev_mk)
  | (with_reducible apply dv_addL) | (with_reducible apply dv_addT) | (with_reducible apply dv_cat)
  | (with_reducible exact dv_eqI _ _) | (with_reducible exact dv_neI _ _) | (with_reducible exact dv_eqS _ _) | (with_reducible exact dv_neS _ _)
  | ((with_reducible show eqD _ _ = some _); exact dv_eqS _ _) | ((with_reducible show neD _ _ = some _); exact dv_neS _ _)
  | (with_reducible exact datAll_dsA _ _ _ (by rfl)) | (with_reducible exact datAll_ds _)
  | ((with_reducible show _ ≤ _); sizeOf_list_dec) | ((with_reducible show _ < _); sizeOf_list_dec)
  | ((with_reducible show (_ : Rho) = _); first | (dsimp only [List.set]; done) | exact rfl)
  | ((with_reducible show (_ : Nat) = _); exact rfl)
  | exact (rfl : _ = some _) | exact (rfl : _ = true) | exact (rfl : _ = false)
  | (intro _))
local macro_rules | `(tactic| array_mem_dec) => `(tactic| repeat' first
  | with_reducible assumption
  | (with_reducible exact ev_next) | (with_reducible exact ev_raise0)
  | ((with_reducible apply ev_seqN); (focus (first | ((with_reducible apply ev_asg); (array_get_dec; done)) | ((with_reducible apply ev_asgM); (array_get_dec; done)) | ((with_reducible apply ev_par); (array_get_dec; done)) | ((with_reducible apply ev_drop); (array_get_dec; done)) | ((with_reducible apply ev_aug); (array_get_dec; done)) | ((with_reducible apply ev_put); (array_get_dec; done)) | (with_reducible assumption) | ((with_reducible apply ev_ifS2); (focus ((array_get_dec; done))); (focus ((first | (with_reducible rfl) | (with_reducible assumption) | exact Bool.not_true | exact Bool.not_false | exact decide_eq_true (by first | (with_reducible assumption) | omega) | exact decide_eq_false (by first | (with_reducible assumption) | omega) | exact nd_t (by first | (with_reducible assumption) | omega) | exact nd_f (by first | (with_reducible assumption) | omega) | exact nb_t (by first | (with_reducible assumption) | omega) | exact nb_f (by first | (with_reducible assumption) | omega) | (simp only [decide_true, decide_false, Bool.not_true, Bool.not_false, Bool.true_and, Bool.and_true, Bool.false_and, Bool.and_false, Bool.or_true, Bool.true_or, Bool.or_false, Bool.false_or]; done)))); exact ev_next))); (focus (first | (dsimp only [List.set, setsR]; done) | exact rfl)))
  | ((with_reducible apply ev_seqR); (focus ((with_reducible apply ev_ifS1); (focus ((array_get_dec; done))); (focus ((first | (with_reducible rfl) | (with_reducible assumption) | exact Bool.not_true | exact Bool.not_false | exact decide_eq_true (by first | (with_reducible assumption) | omega) | exact decide_eq_false (by first | (with_reducible assumption) | omega) | exact nd_t (by first | (with_reducible assumption) | omega) | exact nd_f (by first | (with_reducible assumption) | omega) | exact nb_t (by first | (with_reducible assumption) | omega) | exact nb_f (by first | (with_reducible assumption) | omega) | (simp only [decide_true, decide_false, Bool.not_true, Bool.not_false, Bool.true_and, Bool.and_true, Bool.false_and, Bool.and_false, Bool.or_true, Bool.true_or, Bool.or_false, Bool.false_or]; done)))); ((with_reducible apply ev_ret); (array_get_dec; done)))))
  | ((with_reducible apply ev_seqX); (focus ((with_reducible apply ev_ifS1); (focus ((array_get_dec; done))); (focus ((first | (with_reducible rfl) | (with_reducible assumption) | exact Bool.not_true | exact Bool.not_false | exact decide_eq_true (by first | (with_reducible assumption) | omega) | exact decide_eq_false (by first | (with_reducible assumption) | omega) | exact nd_t (by first | (with_reducible assumption) | omega) | exact nd_f (by first | (with_reducible assumption) | omega) | exact nb_t (by first | (with_reducible assumption) | omega) | exact nb_f (by first | (with_reducible assumption) | omega) | (simp only [decide_true, decide_false, Bool.not_true, Bool.not_false, Bool.true_and, Bool.and_true, Bool.false_and, Bool.and_false, Bool.or_true, Bool.true_or, Bool.or_false, Bool.false_or]; done)))); (first | exact ev_raise0 | ((with_reducible apply ev_raise); (array_get_dec; done))))))
  | ((with_reducible apply ev_seqN); (focus ((with_reducible apply ev_ifS1); (focus ((array_get_dec; done))); (focus ((first | (with_reducible rfl) | (with_reducible assumption) | exact Bool.not_true | exact Bool.not_false | exact decide_eq_true (by first | (with_reducible assumption) | omega) | exact decide_eq_false (by first | (with_reducible assumption) | omega) | exact nd_t (by first | (with_reducible assumption) | omega) | exact nd_f (by first | (with_reducible assumption) | omega) | exact nb_t (by first | (with_reducible assumption) | omega) | exact nb_f (by first | (with_reducible assumption) | omega) | (simp only [decide_true, decide_false, Bool.not_true, Bool.not_false, Bool.true_and, Bool.and_true, Bool.false_and, Bool.and_false, Bool.or_true, Bool.true_or, Bool.or_false, Bool.false_or]; done)))); (array_mem_dec; done))); (focus (first | (dsimp only [List.set, setsR]; done) | exact rfl)))
  | ((with_reducible apply ev_ifS1); (focus ((array_get_dec; done))); (focus ((first | (with_reducible rfl) | (with_reducible assumption) | exact Bool.not_true | exact Bool.not_false | exact decide_eq_true (by first | (with_reducible assumption) | omega) | exact decide_eq_false (by first | (with_reducible assumption) | omega) | exact nd_t (by first | (with_reducible assumption) | omega) | exact nd_f (by first | (with_reducible assumption) | omega) | exact nb_t (by first | (with_reducible assumption) | omega) | exact nb_f (by first | (with_reducible assumption) | omega) | (simp only [decide_true, decide_false, Bool.not_true, Bool.not_false, Bool.true_and, Bool.and_true, Bool.false_and, Bool.and_false, Bool.or_true, Bool.true_or, Bool.or_false, Bool.false_or]; done))))) | ((with_reducible apply ev_ifS2); (focus ((array_get_dec; done))); (focus ((first | (with_reducible rfl) | (with_reducible assumption) | exact Bool.not_true | exact Bool.not_false | exact decide_eq_true (by first | (with_reducible assumption) | omega) | exact decide_eq_false (by first | (with_reducible assumption) | omega) | exact nd_t (by first | (with_reducible assumption) | omega) | exact nd_f (by first | (with_reducible assumption) | omega) | exact nb_t (by first | (with_reducible assumption) | omega) | exact nb_f (by first | (with_reducible assumption) | omega) | (simp only [decide_true, decide_false, Bool.not_true, Bool.not_false, Bool.true_and, Bool.and_true, Bool.false_and, Bool.and_false, Bool.or_true, Bool.true_or, Bool.or_false, Bool.false_or]; done)))))
  | ((with_reducible apply ev_ret); (array_get_dec; done)) | ((with_reducible apply ev_retF); (array_get_dec; done)) | ((with_reducible apply ev_asg); (array_get_dec; done)) | ((with_reducible apply ev_asgM); (array_get_dec; done)) | ((with_reducible apply ev_par); (array_get_dec; done)) | ((with_reducible apply ev_drop); (array_get_dec; done)) | ((with_reducible apply ev_aug); (array_get_dec; done)) | ((with_reducible apply ev_put); (array_get_dec; done)) | ((with_reducible apply ev_raise); (array_get_dec; done)))
/-! ### equal data are the same; lists of lists -/
theorem same_ok : ∀ (n : Nat) (d : D), good n d = true → f_law_same n [d, d] = .ok (.bl true)
  | 0, _, h => by cases h
  | n + 1, d, h => by
    have hc : ∀ (xs : List D) (x : D) (hz : zipI (consA (nameE 0) (consA (nameE 1) nilA)) [.d x, .d x, .no, .no, .no] = .ok (zipD xs xs) [.d x, .d x, .no, .no, .no]), xs.length ≤ 1000000 → (∀ y ∈ xs, good n y = true) →
        opNE allD (consA (frzE (compF [3, 4] (zipI (consA (nameE 0) (consA (nameE 1) nilA))) (tupG 2 (consG (nameG 3) (consG (nameG 4) nilG))) yesT (m_law_same_e1 (f_law_same n)))) nilA) [.d x, .d x, .no, .no, .no] = .ok (.d (.bl true)) [.d x, .d x, .no, .no, .no] := fun xs x hz hl hg => by
      have e := compF_map (vs := [3, 4]) (gd := tupG 2 (consG (nameG 3) (consG (nameG 4) nilG))) (fe := m_law_same_e1 (f_law_same n)) (fun _ => D.bl true) hz rfl rfl rfl (by rw [zip_self_len]; exact hl) (fun d hd => by
        obtain ⟨y, hy, rfl⟩ := zip_self hd
        refine ⟨[.d x, .d x, .no, .d y, .d y], [.d x, .d x, .no, .d y, .d y], rfl, ?_, rfl⟩
        simp [m_law_same_e1, Lq.runF, Lq.runB, Lq.runL, Lq.boxAt, Lq.startR, Lq.seqS, Lq.nextS, Lq.ifS, Lq.asgS, Lq.asgM, Lq.asgG, Lq.retS, Lq.retF, Lq.dropS, Lq.forS, Lq.loopS, Lq.turnS, Lq.putItem, Lq.isMB, Lq.putS1, Lq.parS, Lq.consMd, Lq.consMf', Lq.noErr, Lq.nilM, Lq.setsR, Lq.nameE, Lq.constE, Lq.op1E, Lq.op2E, Lq.opNE, Lq.opNF, Lq.op2F, Lq.lift1, Lq.lift2, Lq.liftN, Lq.res, Lq.resAll, Lq.valT, Lq.notT, Lq.andT, Lq.orT, Lq.andE, Lq.orE, Lq.notE, Lq.ifE, Lq.consA, Lq.nilA, Lq.frzE, Lq.lstF, Lq.tupE, Lq.callE, Lq.callBE, Lq.callL, Lq.callNew, Lq.slotted, Lq.datAll, Lq.appE, Lq.popE, Lq.compF, Lq.compLoop, Lq.compTurn, Lq.yesT, Lq.wipeR, Lq.backR, Lq.plainC, Lq.nameG, Lq.tupG, Lq.consG, Lq.nilG, Lq.seqI, Lq.rngI1, Lq.rngI2, Lq.enumI, Lq.zipI, Lq.isiE, Lq.slE, Lq.aPart, Lq.noPart, Lq.chainE, Lq.strM, Lq.orF, Lq.R.bind, Lq.R.thnO, Lq.raiseS, Lq.raise0S, Lq.tryS, Lq.hNil, Lq.hAs, Lq.goneS, Lq.enumA, Lq.enumK, Lq.ifF, Lq.permA, Lq.permL, Lq.D.noL, Lq.noLs, Lq.isEx, Lq.fldD, Lq.isErrD, Lq.itemsOf, Lq.onlyB, Lq.isB, Lq.D.flat, Lq.starA, Lq.extE, Lq.augS, Lq.ixTE, Lq.mvS, Lq.dfA, Lq.slotD, Lq.propD, Lq.mkE, Lq.mkE0, same_ok n y (hg y hy)])
      rw [map_yes] at e
      simp only [Lq.opNE, Lq.consA, Lq.nilA, Lq.frzE, e, Lq.R.bind, Lq.liftN, Lq.resAll, Lq.res, all_true]
    cases d with
    | obj _ _ => cases h
    | scr _ => cases h
    | lst xs =>
      obtain ⟨hl, hg⟩ : xs.length ≤ 1000000 ∧ ∀ y ∈ xs, good n y = true := by
        unfold good at h
        rw [Bool.and_eq_true] at h
        exact ⟨of_decide_eq_true h.1, List.all_eq_true.1 h.2⟩
      have e := hc xs (.lst xs) (by simp [Lq.runF, Lq.runB, Lq.runL, Lq.boxAt, Lq.startR, Lq.seqS, Lq.nextS, Lq.ifS, Lq.asgS, Lq.asgM, Lq.asgG, Lq.retS, Lq.retF, Lq.dropS, Lq.forS, Lq.loopS, Lq.turnS, Lq.putItem, Lq.isMB, Lq.putS1, Lq.parS, Lq.consMd, Lq.consMf', Lq.noErr, Lq.nilM, Lq.setsR, Lq.nameE, Lq.constE, Lq.op1E, Lq.op2E, Lq.opNE, Lq.opNF, Lq.op2F, Lq.lift1, Lq.lift2, Lq.liftN, Lq.res, Lq.resAll, Lq.valT, Lq.notT, Lq.andT, Lq.orT, Lq.andE, Lq.orE, Lq.notE, Lq.ifE, Lq.consA, Lq.nilA, Lq.frzE, Lq.lstF, Lq.tupE, Lq.callE, Lq.callBE, Lq.callL, Lq.callNew, Lq.slotted, Lq.datAll, Lq.appE, Lq.popE, Lq.compF, Lq.compLoop, Lq.compTurn, Lq.yesT, Lq.wipeR, Lq.backR, Lq.plainC, Lq.nameG, Lq.tupG, Lq.consG, Lq.nilG, Lq.seqI, Lq.rngI1, Lq.rngI2, Lq.enumI, Lq.zipI, Lq.isiE, Lq.slE, Lq.aPart, Lq.noPart, Lq.chainE, Lq.strM, Lq.orF, Lq.R.bind, Lq.R.thnO, Lq.raiseS, Lq.raise0S, Lq.tryS, Lq.hNil, Lq.hAs, Lq.goneS, Lq.enumA, Lq.enumK, Lq.ifF, Lq.permA, Lq.permL, Lq.D.noL, Lq.noLs, Lq.isEx, Lq.fldD, Lq.isErrD, Lq.itemsOf, Lq.onlyB, Lq.isB, Lq.D.flat, Lq.starA, Lq.extE, Lq.augS, Lq.ixTE, Lq.mvS, Lq.dfA, Lq.slotD, Lq.propD, Lq.mkE, Lq.mkE0]) hl hg
      generalize hF : opNE allD (consA (frzE (compF [3, 4] (zipI (consA (nameE 0) (consA (nameE 1) nilA))) (tupG 2 (consG (nameG 3) (consG (nameG 4) nilG))) yesT (m_law_same_e1 (f_law_same n)))) nilA) = F at e
      rw [f_law_same, m_law_same, m_law_same_c1, hF]
      simp [Lq.runF, Lq.runB, Lq.runL, Lq.boxAt, Lq.startR, Lq.seqS, Lq.nextS, Lq.ifS, Lq.asgS, Lq.asgM, Lq.asgG, Lq.retS, Lq.retF, Lq.dropS, Lq.forS, Lq.loopS, Lq.turnS, Lq.putItem, Lq.isMB, Lq.putS1, Lq.parS, Lq.consMd, Lq.consMf', Lq.noErr, Lq.nilM, Lq.setsR, Lq.nameE, Lq.constE, Lq.op1E, Lq.op2E, Lq.opNE, Lq.opNF, Lq.op2F, Lq.lift1, Lq.lift2, Lq.liftN, Lq.res, Lq.resAll, Lq.valT, Lq.notT, Lq.andT, Lq.orT, Lq.andE, Lq.orE, Lq.notE, Lq.ifE, Lq.consA, Lq.nilA, Lq.frzE, Lq.lstF, Lq.tupE, Lq.callE, Lq.callBE, Lq.callL, Lq.callNew, Lq.slotted, Lq.datAll, Lq.appE, Lq.popE, Lq.compF, Lq.compLoop, Lq.compTurn, Lq.yesT, Lq.wipeR, Lq.backR, Lq.plainC, Lq.nameG, Lq.tupG, Lq.consG, Lq.nilG, Lq.seqI, Lq.rngI1, Lq.rngI2, Lq.enumI, Lq.zipI, Lq.isiE, Lq.slE, Lq.aPart, Lq.noPart, Lq.chainE, Lq.strM, Lq.orF, Lq.R.bind, Lq.R.thnO, Lq.raiseS, Lq.raise0S, Lq.tryS, Lq.hNil, Lq.hAs, Lq.goneS, Lq.enumA, Lq.enumK, Lq.ifF, Lq.permA, Lq.permL, Lq.D.noL, Lq.noLs, Lq.isEx, Lq.fldD, Lq.isErrD, Lq.itemsOf, Lq.onlyB, Lq.isB, Lq.D.flat, Lq.starA, Lq.extE, Lq.augS, Lq.ixTE, Lq.mvS, Lq.dfA, Lq.slotD, Lq.propD, Lq.mkE, Lq.mkE0, Lq.addD, Lq.catF, Lq.subD, Lq.mulD, Lq.fdivD, Lq.modD, Lq.powD, Lq.negD, Lq.ltD, Lq.leD, Lq.gtD, Lq.geD, Lq.eqD, Lq.neD, Lq.sameKind, Lq.isD, Lq.isntD, Lq.isNon, Lq.inD, Lq.ninD, Lq.anyEq, Lq.lenD, Lq.atD, Lq.cutD, Lq.revD, Lq.splitD, Lq.joinD, Lq.tupleD, Lq.tupleTD, Lq.listF, Lq.allD, Lq.anyD, Lq.sumD, Lq.absD, Lq.min2D, Lq.max2D, Lq.intD, Lq.strD, Lq.sortedF, Lq.isiB, Lq.tyName, Lq.notObj, Lq.D.items?, Lq.fits, L2.atI, L2.ixN, e, Lq.deq]
    | tup xs =>
      obtain ⟨hl, hg⟩ : xs.length ≤ 1000000 ∧ ∀ y ∈ xs, good n y = true := by
        unfold good at h
        rw [Bool.and_eq_true] at h
        exact ⟨of_decide_eq_true h.1, List.all_eq_true.1 h.2⟩
      have e := hc xs (.tup xs) (by simp [Lq.runF, Lq.runB, Lq.runL, Lq.boxAt, Lq.startR, Lq.seqS, Lq.nextS, Lq.ifS, Lq.asgS, Lq.asgM, Lq.asgG, Lq.retS, Lq.retF, Lq.dropS, Lq.forS, Lq.loopS, Lq.turnS, Lq.putItem, Lq.isMB, Lq.putS1, Lq.parS, Lq.consMd, Lq.consMf', Lq.noErr, Lq.nilM, Lq.setsR, Lq.nameE, Lq.constE, Lq.op1E, Lq.op2E, Lq.opNE, Lq.opNF, Lq.op2F, Lq.lift1, Lq.lift2, Lq.liftN, Lq.res, Lq.resAll, Lq.valT, Lq.notT, Lq.andT, Lq.orT, Lq.andE, Lq.orE, Lq.notE, Lq.ifE, Lq.consA, Lq.nilA, Lq.frzE, Lq.lstF, Lq.tupE, Lq.callE, Lq.callBE, Lq.callL, Lq.callNew, Lq.slotted, Lq.datAll, Lq.appE, Lq.popE, Lq.compF, Lq.compLoop, Lq.compTurn, Lq.yesT, Lq.wipeR, Lq.backR, Lq.plainC, Lq.nameG, Lq.tupG, Lq.consG, Lq.nilG, Lq.seqI, Lq.rngI1, Lq.rngI2, Lq.enumI, Lq.zipI, Lq.isiE, Lq.slE, Lq.aPart, Lq.noPart, Lq.chainE, Lq.strM, Lq.orF, Lq.R.bind, Lq.R.thnO, Lq.raiseS, Lq.raise0S, Lq.tryS, Lq.hNil, Lq.hAs, Lq.goneS, Lq.enumA, Lq.enumK, Lq.ifF, Lq.permA, Lq.permL, Lq.D.noL, Lq.noLs, Lq.isEx, Lq.fldD, Lq.isErrD, Lq.itemsOf, Lq.onlyB, Lq.isB, Lq.D.flat, Lq.starA, Lq.extE, Lq.augS, Lq.ixTE, Lq.mvS, Lq.dfA, Lq.slotD, Lq.propD, Lq.mkE, Lq.mkE0]) hl hg
      generalize hF : opNE allD (consA (frzE (compF [3, 4] (zipI (consA (nameE 0) (consA (nameE 1) nilA))) (tupG 2 (consG (nameG 3) (consG (nameG 4) nilG))) yesT (m_law_same_e1 (f_law_same n)))) nilA) = F at e
      rw [f_law_same, m_law_same, m_law_same_c1, hF]
      simp [Lq.runF, Lq.runB, Lq.runL, Lq.boxAt, Lq.startR, Lq.seqS, Lq.nextS, Lq.ifS, Lq.asgS, Lq.asgM, Lq.asgG, Lq.retS, Lq.retF, Lq.dropS, Lq.forS, Lq.loopS, Lq.turnS, Lq.putItem, Lq.isMB, Lq.putS1, Lq.parS, Lq.consMd, Lq.consMf', Lq.noErr, Lq.nilM, Lq.setsR, Lq.nameE, Lq.constE, Lq.op1E, Lq.op2E, Lq.opNE, Lq.opNF, Lq.op2F, Lq.lift1, Lq.lift2, Lq.liftN, Lq.res, Lq.resAll, Lq.valT, Lq.notT, Lq.andT, Lq.orT, Lq.andE, Lq.orE, Lq.notE, Lq.ifE, Lq.consA, Lq.nilA, Lq.frzE, Lq.lstF, Lq.tupE, Lq.callE, Lq.callBE, Lq.callL, Lq.callNew, Lq.slotted, Lq.datAll, Lq.appE, Lq.popE, Lq.compF, Lq.compLoop, Lq.compTurn, Lq.yesT, Lq.wipeR, Lq.backR, Lq.plainC, Lq.nameG, Lq.tupG, Lq.consG, Lq.nilG, Lq.seqI, Lq.rngI1, Lq.rngI2, Lq.enumI, Lq.zipI, Lq.isiE, Lq.slE, Lq.aPart, Lq.noPart, Lq.chainE, Lq.strM, Lq.orF, Lq.R.bind, Lq.R.thnO, Lq.raiseS, Lq.raise0S, Lq.tryS, Lq.hNil, Lq.hAs, Lq.goneS, Lq.enumA, Lq.enumK, Lq.ifF, Lq.permA, Lq.permL, Lq.D.noL, Lq.noLs, Lq.isEx, Lq.fldD, Lq.isErrD, Lq.itemsOf, Lq.onlyB, Lq.isB, Lq.D.flat, Lq.starA, Lq.extE, Lq.augS, Lq.ixTE, Lq.mvS, Lq.dfA, Lq.slotD, Lq.propD, Lq.mkE, Lq.mkE0, Lq.addD, Lq.catF, Lq.subD, Lq.mulD, Lq.fdivD, Lq.modD, Lq.powD, Lq.negD, Lq.ltD, Lq.leD, Lq.gtD, Lq.geD, Lq.eqD, Lq.neD, Lq.sameKind, Lq.isD, Lq.isntD, Lq.isNon, Lq.inD, Lq.ninD, Lq.anyEq, Lq.lenD, Lq.atD, Lq.cutD, Lq.revD, Lq.splitD, Lq.joinD, Lq.tupleD, Lq.tupleTD, Lq.listF, Lq.allD, Lq.anyD, Lq.sumD, Lq.absD, Lq.min2D, Lq.max2D, Lq.intD, Lq.strD, Lq.sortedF, Lq.isiB, Lq.tyName, Lq.notObj, Lq.D.items?, Lq.fits, L2.atI, L2.ixN, e, Lq.deq]
    | _ => simp [f_law_same, m_law_same, m_law_same_c1, Lq.runF, Lq.runB, Lq.runL, Lq.boxAt, Lq.startR, Lq.seqS, Lq.nextS, Lq.ifS, Lq.asgS, Lq.asgM, Lq.asgG, Lq.retS, Lq.retF, Lq.dropS, Lq.forS, Lq.loopS, Lq.turnS, Lq.putItem, Lq.isMB, Lq.putS1, Lq.parS, Lq.consMd, Lq.consMf', Lq.noErr, Lq.nilM, Lq.setsR, Lq.nameE, Lq.constE, Lq.op1E, Lq.op2E, Lq.opNE, Lq.opNF, Lq.op2F, Lq.lift1, Lq.lift2, Lq.liftN, Lq.res, Lq.resAll, Lq.valT, Lq.notT, Lq.andT, Lq.orT, Lq.andE, Lq.orE, Lq.notE, Lq.ifE, Lq.consA, Lq.nilA, Lq.frzE, Lq.lstF, Lq.tupE, Lq.callE, Lq.callBE, Lq.callL, Lq.callNew, Lq.slotted, Lq.datAll, Lq.appE, Lq.popE, Lq.compF, Lq.compLoop, Lq.compTurn, Lq.yesT, Lq.wipeR, Lq.backR, Lq.plainC, Lq.nameG, Lq.tupG, Lq.consG, Lq.nilG, Lq.seqI, Lq.rngI1, Lq.rngI2, Lq.enumI, Lq.zipI, Lq.isiE, Lq.slE, Lq.aPart, Lq.noPart, Lq.chainE, Lq.strM, Lq.orF, Lq.R.bind, Lq.R.thnO, Lq.raiseS, Lq.raise0S, Lq.tryS, Lq.hNil, Lq.hAs, Lq.goneS, Lq.enumA, Lq.enumK, Lq.ifF, Lq.permA, Lq.permL, Lq.D.noL, Lq.noLs, Lq.isEx, Lq.fldD, Lq.isErrD, Lq.itemsOf, Lq.onlyB, Lq.isB, Lq.D.flat, Lq.starA, Lq.extE, Lq.augS, Lq.ixTE, Lq.mvS, Lq.dfA, Lq.slotD, Lq.propD, Lq.mkE, Lq.mkE0, Lq.addD, Lq.catF, Lq.subD, Lq.mulD, Lq.fdivD, Lq.modD, Lq.powD, Lq.negD, Lq.ltD, Lq.leD, Lq.gtD, Lq.geD, Lq.eqD, Lq.neD, Lq.sameKind, Lq.isD, Lq.isntD, Lq.isNon, Lq.inD, Lq.ninD, Lq.anyEq, Lq.lenD, Lq.atD, Lq.cutD, Lq.revD, Lq.splitD, Lq.joinD, Lq.tupleD, Lq.tupleTD, Lq.listF, Lq.allD, Lq.anyD, Lq.sumD, Lq.absD, Lq.min2D, Lq.max2D, Lq.intD, Lq.strD, Lq.sortedF, Lq.isiB, Lq.tyName, Lq.notObj, Lq.D.items?, Lq.fits, L2.atI, L2.ixN, Lq.deq]
end Lw
namespace Lw
open PySem Lq
local macro_rules | `(tactic| sizeOf_list_dec) => `(tactic| first | omega | (simp only [List.length_append, List.length_map, List.length_cons, List.length_nil, List.length_take, List.length_drop, List.length_reverse, List.length_set, List.length_replicate, List.length_singleton, List.length_range]; omega) | (simp; omega))
local macro_rules | `(tactic| array_get_dec) => `(tactic| repeat' first
  | with_reducible assumption
  | (with_reducible exact ev_const) | (with_reducible exact ev_nilA) | (with_reducible exact ev_nilM) | (with_reducible exact ev_noPart) | (with_reducible exact ev_dfA) | (with_reducible exact ev_mk0)
  | ((with_reducible apply ev_name); (exact rfl)) | ((with_reducible apply ev_nameM); (exact rfl)) | ((with_reducible apply ev_nameB); (exact rfl))
  | (with_reducible apply ev_consA) | (with_reducible apply ev_op2) | (with_reducible apply ev_op1) | (with_reducible apply ev_opN) | (with_reducible apply ev_call) | (with_reducible apply ev_val) | (with_reducible apply ev_notT)
  | ((with_reducible apply ev_and1); (focus ((array_get_dec; done))); (focus ((first | (with_reducible rfl) | (with_reducible assumption) | exact Bool.not_true | exact Bool.not_false | exact decide_eq_true (by first | (with_reducible assumption) | omega) | exact decide_eq_false (by first | (with_reducible assumption) | omega) | exact nd_t (by first | (with_reducible assumption) | omega) | exact nd_f (by first | (with_reducible assumption) | omega) | exact nb_t (by first | (with_reducible assumption) | omega) | exact nb_f (by first | (with_reducible assumption) | omega) | (simp only [decide_true, decide_false, Bool.not_true, Bool.not_false, Bool.true_and, Bool.and_true, Bool.false_and, Bool.and_false, Bool.or_true, Bool.true_or, Bool.or_false, Bool.false_or]; done))))) | ((with_reducible apply ev_and2); (focus ((array_get_dec; done))); (focus ((first | (with_reducible rfl) | (with_reducible assumption) | exact Bool.not_true | exact Bool.not_false | exact decide_eq_true (by first | (with_reducible assumption) | omega) | exact decide_eq_false (by first | (with_reducible assumption) | omega) | exact nd_t (by first | (with_reducible assumption) | omega) | exact nd_f (by first | (with_reducible assumption) | omega) | exact nb_t (by first | (with_reducible assumption) | omega) | exact nb_f (by first | (with_reducible assumption) | omega) | (simp only [decide_true, decide_false, Bool.not_true, Bool.not_false, Bool.true_and, Bool.and_true, Bool.false_and, Bool.and_false, Bool.or_true, Bool.true_or, Bool.or_false, Bool.false_or]; done))))) | ((with_reducible apply ev_or1); (focus ((array_get_dec; done))); (focus ((first | (with_reducible rfl) | (with_reducible assumption) | exact Bool.not_true | exact Bool.not_false | exact decide_eq_true (by first | (with_reducible assumption) | omega) | exact decide_eq_false (by first | (with_reducible assumption) | omega) | exact nd_t (by first | (with_reducible assumption) | omega) | exact nd_f (by first | (with_reducible assumption) | omega) | exact nb_t (by first | (with_reducible assumption) | omega) | exact nb_f (by first | (with_reducible assumption) | omega) | (simp only [decide_true, decide_false, Bool.not_true, Bool.not_false, Bool.true_and, Bool.and_true, Bool.false_and, Bool.and_false, Bool.or_true, Bool.true_or, Bool.or_false, Bool.false_or]; done))))) | ((with_reducible apply ev_or2); (focus ((array_get_dec; done))); (focus ((first | (with_reducible rfl) | (with_reducible assumption) | exact Bool.not_true | exact Bool.not_false | exact decide_eq_true (by first | (with_reducible assumption) | omega) | exact decide_eq_false (by first | (with_reducible assumption) | omega) | exact nd_t (by first | (with_reducible assumption) | omega) | exact nd_f (by first | (with_reducible assumption) | omega) | exact nb_t (by first | (with_reducible assumption) | omega) | exact nb_f (by first | (with_reducible assumption) | omega) | (simp only [decide_true, decide_false, Bool.not_true, Bool.not_false, Bool.true_and, Bool.and_true, Bool.false_and, Bool.and_false, Bool.or_true, Bool.true_or, Bool.or_false, Bool.false_or]; done))))) | ((with_reducible apply ev_ifE1); (focus ((array_get_dec; done))); (focus ((first | (with_reducible rfl) | (with_reducible assumption) | exact Bool.not_true | exact Bool.not_false | exact decide_eq_true (by first | (with_reducible assumption) | omega) | exact decide_eq_false (by first | (with_reducible assumption) | omega) | exact nd_t (by first | (with_reducible assumption) | omega) | exact nd_f (by first | (with_reducible assumption) | omega) | exact nb_t (by first | (with_reducible assumption) | omega) | exact nb_f (by first | (with_reducible assumption) | omega) | (simp only [decide_true, decide_false, Bool.not_true, Bool.not_false, Bool.true_and, Bool.and_true, Bool.false_and, Bool.and_false, Bool.or_true, Bool.true_or, Bool.or_false, Bool.false_or]; done))))) | ((with_reducible apply ev_ifE2); (focus ((array_get_dec; done))); (focus ((first | (with_reducible rfl) | (with_reducible assumption) | exact Bool.not_true | exact Bool.not_false | exact decide_eq_true (by first | (with_reducible assumption) | omega) | exact decide_eq_false (by first | (with_reducible assumption) | omega) | exact nd_t (by first | (with_reducible assumption) | omega) | exact nd_f (by first | (with_reducible assumption) | omega) | exact nb_t (by first | (with_reducible assumption) | omega) | exact nb_f (by first | (with_reducible assumption) | omega) | (simp only [decide_true, decide_false, Bool.not_true, Bool.not_false, Bool.true_and, Bool.and_true, Bool.false_and, Bool.and_false, Bool.or_true, Bool.true_or, Bool.or_false, Bool.false_or]; done))))) | ((with_reducible apply ev_ifF1); (focus ((array_get_dec; done))); (focus ((first | (with_reducible rfl) | (with_reducible assumption) | exact Bool.not_true | exact Bool.not_false | exact decide_eq_true (by first | (with_reducible assumption) | omega) | exact decide_eq_false (by first | (with_reducible assumption) | omega) | exact nd_t (by first | (with_reducible assumption) | omega) | exact nd_f (by first | (with_reducible assumption) | omega) | exact nb_t (by first | (with_reducible assumption) | omega) | exact nb_f (by first | (with_reducible assumption) | omega) | (simp only [decide_true, decide_false, Bool.not_true, Bool.not_false, Bool.true_and, Bool.and_true, Bool.false_and, Bool.and_false, Bool.or_true, Bool.true_or, Bool.or_false, Bool.false_or]; done))))) | ((with_reducible apply ev_ifF2); (focus ((array_get_dec; done))); (focus ((first | (with_reducible rfl) | (with_reducible assumption) | exact Bool.not_true | exact Bool.not_false | exact decide_eq_true (by first | (with_reducible assumption) | omega) | exact decide_eq_false (by first | (with_reducible assumption) | omega) | exact nd_t (by first | (with_reducible assumption) | omega) | exact nd_f (by first | (with_reducible assumption) | omega) | exact nb_t (by first | (with_reducible assumption) | omega) | exact nb_f (by first | (with_reducible assumption) | omega) | (simp only [decide_true, decide_false, Bool.not_true, Bool.not_false, Bool.true_and, Bool.and_true, Bool.false_and, Bool.and_false, Bool.or_true, Bool.true_or, Bool.or_false, Bool.false_or]; done)))))
  | (with_reducible apply ev_and) | (with_reducible apply ev_or) | (with_reducible apply ev_frz) | (with_reducible apply ev_tup) | (with_reducible apply ev_lst) | (with_reducible apply ev_opNF) | (with_reducible apply ev_op2F) | (with_reducible apply ev_callB) | (with_reducible apply ev_starA) | (with_reducible apply ev_permA) | (with_reducible apply ev_app) | (with_reducible apply ev_ext) | (with_reducible apply ev_pop) | (with_reducible apply ev_rem) | (with_reducible apply ev_aPart) | (with_reducible apply ev_sl) | (with_reducible apply ev_ixT) | (with_reducible apply ev_andE) | (with_reducible apply ev_orE) | (with_reducible apply ev_notE) | (with_reducible apply ev_ifE) | (with_reducible apply ev_consMd) | (with_reducible apply ev_consMf) | (with_reducible apply ev_rng1) | (with_reducible apply ev_seqI) | (with_reducible apply ev_lrg1) | (with_reducible apply ev_lrg2) | (with_reducible apply ev_mk)
  | (with_reducible apply dv_addL) | (with_reducible apply dv_addT) | (with_reducible apply dv_cat)
  | (with_reducible exact dv_eqI _ _) | (with_reducible exact dv_neI _ _) | (with_reducible exact dv_eqS _ _) | (with_reducible exact dv_neS _ _)
  | ((with_reducible show eqD _ _ = some _); exact dv_eqS _ _) | ((with_reducible show neD _ _ = some _); exact dv_neS _ _)
  | (with_reducible exact datAll_dsA _ _ _ (by rfl)) | (with_reducible exact datAll_ds _)
  | ((with_reducible show _ ≤ _); sizeOf_list_dec) | ((with_reducible show _ < _); sizeOf_list_dec)
  | ((with_reducible show (_ : Rho) = _); first | (dsimp only [List.set]; done) | exact rfl)
  | ((with_reducible show (_ : Nat) = _); exact rfl)
  | exact (rfl : _ = some _) | exact (rfl : _ = true) | exact (rfl : _ = false)
  | (intro _))
local macro_rules | `(tactic| array_mem_dec) => `(tactic| repeat' first
  | with_reducible assumption
  | (with_reducible exact ev_next) | (with_reducible exact ev_raise0)
  | ((with_reducible apply ev_seqN); (focus (first | ((with_reducible apply ev_asg); (array_get_dec; done)) | ((with_reducible apply ev_asgM); (array_get_dec; done)) | ((with_reducible apply ev_par); (array_get_dec; done)) | ((with_reducible apply ev_drop); (array_get_dec; done)) | ((with_reducible apply ev_aug); (array_get_dec; done)) | ((with_reducible apply ev_put); (array_get_dec; done)) | (with_reducible assumption) | ((with_reducible apply ev_ifS2); (focus ((array_get_dec; done))); (focus ((first | (with_reducible rfl) | (with_reducible assumption) | exact Bool.not_true | exact Bool.not_false | exact decide_eq_true (by first | (with_reducible assumption) | omega) | exact decide_eq_false (by first | (with_reducible assumption) | omega) | exact nd_t (by first | (with_reducible assumption) | omega) | exact nd_f (by first | (with_reducible assumption) | omega) | exact nb_t (by first | (with_reducible assumption) | omega) | exact nb_f (by first | (with_reducible assumption) | omega) | (simp only [decide_true, decide_false, Bool.not_true, Bool.not_false, Bool.true_and, Bool.and_true, Bool.false_and, Bool.and_false, Bool.or_true, Bool.true_or, Bool.or_false, Bool.false_or]; done)))); exact ev_next))); (focus (first | (dsimp only [List.set, setsR]; done) | exact rfl)))
  | ((with_reducible apply ev_seqR); (focus ((with_reducible apply ev_ifS1); (focus ((array_get_dec; done))); (focus ((first | (with_reducible rfl) | (with_reducible assumption) | exact Bool.not_true | exact Bool.not_false | exact decide_eq_true (by first | (with_reducible assumption) | omega) | exact decide_eq_false (by first | (with_reducible assumption) | omega) | exact nd_t (by first | (with_reducible assumption) | omega) | exact nd_f (by first | (with_reducible assumption) | omega) | exact nb_t (by first | (with_reducible assumption) | omega) | exact nb_f (by first | (with_reducible assumption) | omega) | (simp only [decide_true, decide_false, Bool.not_true, Bool.not_false, Bool.true_and, Bool.and_true, Bool.false_and, Bool.and_false, Bool.or_true, Bool.true_or, Bool.or_false, Bool.false_or]; done)))); ((with_reducible apply ev_ret); (array_get_dec; done)))))
  | ((with_reducible apply ev_seqX); (focus ((with_reducible apply ev_ifS1); (focus ((array_get_dec; done))); (focus ((first | (with_reducible rfl) | (with_reducible assumption) | exact Bool.not_true | exact Bool.not_false | exact decide_eq_true (by first | (with_reducible assumption) | omega) | exact decide_eq_false (by first | (with_reducible assumption) | omega) | exact nd_t (by first | (with_reducible assumption) | omega) | exact nd_f (by first | (with_reducible assumption) | omega) | exact nb_t (by first | (with_reducible assumption) | omega) | exact nb_f (by first | (with_reducible assumption) | omega) | (simp only [decide_true, decide_false, Bool.not_true, Bool.not_false, Bool.true_and, Bool.and_true, Bool.false_and, Bool.and_false, Bool.or_true, Bool.true_or, Bool.or_false, Bool.false_or]; done)))); (first | exact ev_raise0 | ((with_reducible apply ev_raise); (array_get_dec; done))))))
  | ((with_reducible apply ev_seqN); (focus ((with_reducible apply ev_ifS1); (focus ((array_get_dec; done))); (focus ((first | (with_reducible rfl) | (with_reducible assumption) | exact Bool.not_true | exact Bool.not_false | exact decide_eq_true (by first | (with_reducible assumption) | omega) | exact decide_eq_false (by first | (with_reducible assumption) | omega) | exact nd_t (by first | (with_reducible assumption) | omega) | exact nd_f (by first | (with_reducible assumption) | omega) | exact nb_t (by first | (with_reducible assumption) | omega) | exact nb_f (by first | (with_reducible assumption) | omega) | (simp only [decide_true, decide_false, Bool.not_true, Bool.not_false, Bool.true_and, Bool.and_true, Bool.false_and, Bool.and_false, Bool.or_true, Bool.true_or, Bool.or_false, Bool.false_or]; done)))); (array_mem_dec; done))); (focus (first | (dsimp only [List.set, setsR]; done) | exact rfl)))
  | ((with_reducible apply ev_ifS1); (focus ((array_get_dec; done))); (focus ((first | (with_reducible rfl) | (with_reducible assumption) | exact Bool.not_true | exact Bool.not_false | exact decide_eq_true (by first | (with_reducible assumption) | omega) | exact decide_eq_false (by first | (with_reducible assumption) | omega) | exact nd_t (by first | (with_reducible assumption) | omega) | exact nd_f (by first | (with_reducible assumption) | omega) | exact nb_t (by first | (with_reducible assumption) | omega) | exact nb_f (by first | (with_reducible assumption) | omega) | (simp only [decide_true, decide_false, Bool.not_true, Bool.not_false, Bool.true_and, Bool.and_true, Bool.false_and, Bool.and_false, Bool.or_true, Bool.true_or, Bool.or_false, Bool.false_or]; done))))) | ((with_reducible apply ev_ifS2); (focus ((array_get_dec; done))); (focus ((first | (with_reducible rfl) | (with_reducible assumption) | exact Bool.not_true | exact Bool.not_false | exact decide_eq_true (by first | (with_reducible assumption) | omega) | exact decide_eq_false (by first | (with_reducible assumption) | omega) | exact nd_t (by first | (with_reducible assumption) | omega) | exact nd_f (by first | (with_reducible assumption) | omega) | exact nb_t (by first | (with_reducible assumption) | omega) | exact nb_f (by first | (with_reducible assumption) | omega) | (simp only [decide_true, decide_false, Bool.not_true, Bool.not_false, Bool.true_and, Bool.and_true, Bool.false_and, Bool.and_false, Bool.or_true, Bool.true_or, Bool.or_false, Bool.false_or]; done)))))
  | ((with_reducible apply ev_ret); (array_get_dec; done)) | ((with_reducible apply ev_retF); (array_get_dec; done)) | ((with_reducible apply ev_asg); (array_get_dec; done)) | ((with_reducible apply ev_asgM); (array_get_dec; done)) | ((with_reducible apply ev_par); (array_get_dec; done)) | ((with_reducible apply ev_drop); (array_get_dec; done)) | ((with_reducible apply ev_aug); (array_get_dec; done)) | ((with_reducible apply ev_put); (array_get_dec; done)) | ((with_reducible apply ev_raise); (array_get_dec; done)))
/-! ### comprehensions over typed lists -/
theorem compLoop_t {α : Type} {vs : List Nat} {gd : D → Rho → Option Rho} {ft : Rho → R Bool} {fe : Rho → R VD} {ρ : Rho} {e : α → D} (p : α → Bool) (g : α → D) : ∀ (l : List α) (acc : List D), acc.length + l.length ≤ 1000000 →
    (∀ x ∈ l, ∃ ρ1, gd (e x) ρ = some ρ1 ∧ ft ρ1 = .ok (p x) ρ1 ∧ (p x = true → fe ρ1 = .ok (.d (g x)) ρ1) ∧ wipeR ρ1 vs = ρ) → Lq.compLoop vs gd ft fe acc (l.map e) ρ = .ok (acc ++ (l.filter p).map g) ρ
  | [], acc, _, _ => by simp [Lq.compLoop]
  | x :: l, acc, hl, h => by
    rw [List.length_cons] at hl
    obtain ⟨ρ1, e1, e2, e3, e4⟩ := h x List.mem_cons_self
    have hr := fun acc' ha => compLoop_t p g l acc' ha fun y hy => h y (List.mem_cons_of_mem _ hy)
    rw [List.map_cons, Lq.compLoop]
    cases hp : p x with
    | true =>
      have et : Lq.compTurn gd ft fe acc (e x) ρ = .ok (acc ++ [g x]) ρ1 := by simp only [Lq.compTurn, e1, e2, hp, R.bind, e3 hp, if_true, fits_of (show acc.length + 1 ≤ 1000000 by omega)]
      rw [et]; simp only [e4]
      rw [hr _ (by rw [List.length_append, List.length_singleton]; omega), List.filter_cons_of_pos hp]; simp
    | false =>
      have et : Lq.compTurn gd ft fe acc (e x) ρ = .ok acc ρ1 := by simp [Lq.compTurn, e1, e2, hp, R.bind]
      rw [et]; simp only [e4]
      rw [hr _ (by omega), List.filter_cons_of_neg (by simp [hp])]
theorem comp_t {α : Type} {vs : List Nat} {fi : Rho → R (List D)} {gd : D → Rho → Option Rho} {ft : Rho → R Bool} {fe : Rho → R VD} {ρ ρ0 : Rho} {l : List α} {e : α → D} {p : α → Bool} {g : α → D} (hi : fi ρ = .ok (l.map e) ρ0) (hp : (vs.all fun v => plainC (ρ0.getD v .no)) = true) (hl : l.length ≤ 1000000)
    (h : ∀ x ∈ l, ∃ ρ1, gd (e x) (wipeR ρ0 vs) = some ρ1 ∧ ft ρ1 = .ok (p x) ρ1 ∧ (p x = true → fe ρ1 = .ok (.d (g x)) ρ1) ∧ wipeR ρ1 vs = wipeR ρ0 vs) (hb : backR ρ0 (wipeR ρ0 vs) vs = ρ0 := by rfl) : Lq.compF vs fi gd ft fe ρ = .ok ((l.filter p).map g) ρ0 := by
  have e1 := compLoop_t (vs := vs) (gd := gd) (ft := ft) (fe := fe) p g l [] (by simpa using hl) h
  rw [List.nil_append] at e1
  simp only [Lq.compF, hi, R.bind, hp, e1, if_true, hb]
theorem comp_m {α : Type} {vs : List Nat} {fi : Rho → R (List D)} {gd : D → Rho → Option Rho} {fe : Rho → R VD} {ρ ρ0 : Rho} {l : List α} {e : α → D} {g : α → D} (hi : fi ρ = .ok (l.map e) ρ0) (hp : (vs.all fun v => plainC (ρ0.getD v .no)) = true) (hl : l.length ≤ 1000000)
    (h : ∀ x ∈ l, ∃ ρ1, gd (e x) (wipeR ρ0 vs) = some ρ1 ∧ fe ρ1 = .ok (.d (g x)) ρ1 ∧ wipeR ρ1 vs = wipeR ρ0 vs) (hb : backR ρ0 (wipeR ρ0 vs) vs = ρ0 := by rfl) : Lq.compF vs fi gd yesT fe ρ = .ok (l.map g) ρ0 := by
  have e1 := comp_t (vs := vs) (fi := fi) (gd := gd) (ft := yesT) (fe := fe) (p := fun _ => true) (g := g) hi hp hl (fun x hx => by
    obtain ⟨ρ1, h1, h2, h3⟩ := h x hx
    exact ⟨ρ1, h1, rfl, fun _ => h2, h3⟩) hb
  rw [e1, List.filter_eq_self.2 fun _ _ => rfl]
theorem rng_t (lo : Int) (n : Nat) : rng lo n = (List.range n).map fun i => D.int (lo + (i : Nat)) := rfl
/-- loops over typed lists, with a state that is kept -/
theorem loop_t {α σ : Type} {body : D → Rho → O} {e : α → D} (A : σ → Rho → Prop) (step : σ → α → σ) : ∀ (l : List α) (s : σ) (ρ : Rho), A s ρ → (∀ l1 x l2, l = l1 ++ x :: l2 → ∀ ρ, A (l1.foldl step s) ρ → ∃ ρ1, body (e x) ρ = .nx ρ1 ∧ A (step (l1.foldl step s) x) ρ1) →
    ∃ ρ', loopS body (l.map e) ρ = .nx ρ' ∧ A (l.foldl step s) ρ'
  | [], s, ρ, h, _ => ⟨ρ, rfl, h⟩
  | x :: l, s, ρ, h, hs => by
    obtain ⟨ρ1, e1, h1⟩ := hs [] x l rfl ρ h
    obtain ⟨ρ2, e2, h2⟩ := loop_t A step l (step s x) ρ1 h1 (fun l1 y l2 hl ρ hA => by
      have := hs (x :: l1) y l2 (by rw [hl]; rfl) ρ (by simpa using hA)
      simpa using this)
    exact ⟨ρ2, by rw [List.map_cons, loopS, e1]; exact e2, by simpa using h2⟩
theorem setI_eq {a b : List Int} (h : ∀ x, x ∈ a ↔ x ∈ b) : setI a = setI b := by
  unfold setI
  have hp : (sortInts (uniq a)).Perm (sortInts (uniq b)) := (sortInts_perm _).trans (((List.perm_ext_iff_of_nodup uniq_nodup uniq_nodup).2 fun x => by rw [uniq_mem, uniq_mem]; exact h x).trans (sortInts_perm _).symm)
  exact hp.eq_of_pairwise (fun x y _ _ h1 h2 => Int.le_antisymm h1 h2) (sortInts_sorted _) (sortInts_sorted _)
theorem keys_ints {x : D} {ns : List Int} (hx : x.items? = some (ns.map D.int)) (hl : ns.length ≤ 1000) : keysD x = some (.inl ns) := by
  unfold keysD
  rw [hx]
  simp only [List.length_map]
  rw [if_pos (Nat.ble_eq_true_of_le hl), allOf_map_int]
theorem set_ints {x : D} {ns : List Int} (hx : x.items? = some (ns.map D.int)) (hl : ns.length ≤ 1000) : sortSetF [x] = some ((setI ns).map D.int) := by
  show (match keysD x with | some (.inl ns) => some ((setI ns).map D.int) | some (.inr ws) => some ((setS ws).map D.str) | none => none) = _
  rw [keys_ints hx hl]
end Lw
namespace Lw
open PySem Lq
local macro_rules | `(tactic| sizeOf_list_dec) => `(tactic| first | omega | (simp only [List.length_append, List.length_map, List.length_cons, List.length_nil, List.length_take, List.length_drop, List.length_reverse, List.length_set, List.length_replicate, List.length_singleton, List.length_range]; omega) | (simp; omega))
local macro_rules | `(tactic| array_get_dec) => `(tactic| repeat' first
  | with_reducible assumption
  | (with_reducible exact ev_const) | (with_reducible exact ev_nilA) | (with_reducible exact ev_nilM) | (with_reducible exact ev_noPart) | (with_reducible exact ev_dfA) | (with_reducible exact ev_mk0)
  | ((with_reducible apply ev_name); (exact rfl)) | ((with_reducible apply ev_nameM); (exact rfl)) | ((with_reducible apply ev_nameB); (exact rfl))
  | (with_reducible apply ev_consA) | (with_reducible apply ev_op2) | (with_reducible apply ev_op1) | (with_reducible apply ev_opN) | (with_reducible apply ev_call) | (with_reducible apply ev_val) | (with_reducible apply ev_notT)
  | ((with_reducible apply ev_and1); (focus ((array_get_dec; done))); (focus ((first | (with_reducible rfl) | (with_reducible assumption) | exact Bool.not_true | exact Bool.not_false | exact decide_eq_true (by first | (with_reducible assumption) | omega) | exact decide_eq_false (by first | (with_reducible assumption) | omega) | exact nd_t (by first | (with_reducible assumption) | omega) | exact nd_f (by first | (with_reducible assumption) | omega) | exact nb_t (by first | (with_reducible assumption) | omega) | exact nb_f (by first | (with_reducible assumption) | omega) | (simp only [decide_true, decide_false, Bool.not_true, Bool.not_false, Bool.true_and, Bool.and_true, Bool.false_and, Bool.and_false, Bool.or_true, Bool.true_or, Bool.or_false, Bool.false_or]; done))))) | ((with_reducible apply ev_and2); (focus ((array_get_dec; done))); (focus ((first | (with_reducible rfl) | (with_reducible assumption) | exact Bool.not_true | exact Bool.not_false | exact decide_eq_true (by first | (with_reducible assumption) | omega) | exact decide_eq_false (by first | (with_reducible assumption) | omega) | exact nd_t (by first | (with_reducible assumption) | omega) | exact nd_f (by first | (with_reducible assumption) | omega) | exact nb_t (by first | (with_reducible assumption) | omega) | exact nb_f (by first | (with_reducible assumption) | omega) | (simp only [decide_true, decide_false, Bool.not_true, Bool.not_false, Bool.true_and, Bool.and_true, Bool.false_and, Bool.and_false, Bool.or_true, Bool.true_or, Bool.or_false, Bool.false_or]; done))))) | ((with_reducible apply ev_or1); (focus ((array_get_dec; done))); (focus ((first | (with_reducible rfl) | (with_reducible assumption) | exact Bool.not_true | exact Bool.not_false | exact decide_eq_true (by first | (with_reducible assumption) | omega) | exact decide_eq_false (by first | (with_reducible assumption) | omega) | exact nd_t (by first | (with_reducible assumption) | omega) | exact nd_f (by first | (with_reducible assumption) | omega) | exact nb_t (by first | (with_reducible assumption) | omega) | exact nb_f (by first | (with_reducible assumption) | omega) | (simp only [decide_true, decide_false, Bool.not_true, Bool.not_false, Bool.true_and, Bool.and_true, Bool.false_and, Bool.and_false, Bool.or_true, Bool.true_or, Bool.or_false, Bool.false_or]; done))))) | ((with_reducible apply ev_or2); (focus ((array_get_dec; done))); (focus ((first | (with_reducible rfl) | (with_reducible assumption) | exact Bool.not_true | exact Bool.not_false | exact decide_eq_true (by first | (with_reducible assumption) | omega) | exact decide_eq_false (by first | (with_reducible assumption) | omega) | exact nd_t (by first | (with_reducible assumption) | omega) | exact nd_f (by first | (with_reducible assumption) | omega) | exact nb_t (by first | (with_reducible assumption) | omega) | exact nb_f (by first | (with_reducible assumption) | omega) | (simp only [decide_true, decide_false, Bool.not_true, Bool.not_false, Bool.true_and, Bool.and_true, Bool.false_and, Bool.and_false, Bool.or_true, Bool.true_or, Bool.or_false, Bool.false_or]; done))))) | ((with_reducible apply ev_ifE1); (focus ((array_get_dec; done))); (focus ((first | (with_reducible rfl) | (with_reducible assumption) | exact Bool.not_true | exact Bool.not_false | exact decide_eq_true (by first | (with_reducible assumption) | omega) | exact decide_eq_false (by first | (with_reducible assumption) | omega) | exact nd_t (by first | (with_reducible assumption) | omega) | exact nd_f (by first | (with_reducible assumption) | omega) | exact nb_t (by first | (with_reducible assumption) | omega) | exact nb_f (by first | (with_reducible assumption) | omega) | (simp only [decide_true, decide_false, Bool.not_true, Bool.not_false, Bool.true_and, Bool.and_true, Bool.false_and, Bool.and_false, Bool.or_true, Bool.true_or, Bool.or_false, Bool.false_or]; done))))) | ((with_reducible apply ev_ifE2); (focus ((array_get_dec; done))); (focus ((first | (with_reducible rfl) | (with_reducible assumption) | exact Bool.not_true | exact Bool.not_false | exact decide_eq_true (by first | (with_reducible assumption) | omega) | exact decide_eq_false (by first | (with_reducible assumption) | omega) | exact nd_t (by first | (with_reducible assumption) | omega) | exact nd_f (by first | (with_reducible assumption) | omega) | exact nb_t (by first | (with_reducible assumption) | omega) | exact nb_f (by first | (with_reducible assumption) | omega) | (simp only [decide_true, decide_false, Bool.not_true, Bool.not_false, Bool.true_and, Bool.and_true, Bool.false_and, Bool.and_false, Bool.or_true, Bool.true_or, Bool.or_false, Bool.false_or]; done))))) | ((with_reducible apply ev_ifF1); (focus ((array_get_dec; done))); (focus ((first | (with_reducible rfl) | (with_reducible assumption) | exact Bool.not_true | exact Bool.not_false | exact decide_eq_true (by first | (with_reducible assumption) | omega) | exact decide_eq_false (by first | (with_reducible assumption) | omega) | exact nd_t (by first | (with_reducible assumption) | omega) | exact nd_f (by first | (with_reducible assumption) | omega) | exact nb_t (by first | (with_reducible assumption) | omega) | exact nb_f (by first | (with_reducible assumption) | omega) | (simp only [decide_true, decide_false, Bool.not_true, Bool.not_false, Bool.true_and, Bool.and_true, Bool.false_and, Bool.and_false, Bool.or_true, Bool.true_or, Bool.or_false, Bool.false_or]; done))))) | ((with_reducible apply ev_ifF2); (focus ((array_get_dec; done))); (focus ((first | (with_reducible rfl) | (with_reducible assumption) | exact Bool.not_true | exact Bool.not_false | exact decide_eq_true (by first | (with_reducible assumption) | omega) | exact decide_eq_false (by first | (with_reducible assumption) | omega) | exact nd_t (by first | (with_reducible assumption) | omega) | exact nd_f (by first | (with_reducible assumption) | omega) | exact nb_t (by first | (with_reducible assumption) | omega) | exact nb_f (by first | (with_reducible assumption) | omega) | (simp only [decide_true, decide_false, Bool.not_true, Bool.not_false, Bool.true_and, Bool.and_true, Bool.false_and, Bool.and_false, Bool.or_true, Bool.true_or, Bool.or_false, Bool.false_or]; done)))))
  | (with_reducible apply ev_and) | (with_reducible apply ev_or) | (with_reducible apply ev_frz) | (with_reducible apply ev_tup) | (with_reducible apply ev_lst) | (with_reducible apply ev_opNF) | (with_reducible apply ev_op2F) | (with_reducible apply ev_callB) | (with_reducible apply ev_starA) | (with_reducible apply ev_permA) | (with_reducible apply ev_app) | (with_reducible apply ev_ext) | (with_reducible apply ev_pop) | (with_reducible apply ev_rem) | (with_reducible apply ev_aPart) | (with_reducible apply ev_sl) | (with_reducible apply ev_ixT) | (with_reducible apply ev_andE) | (with_reducible apply ev_orE) | (with_reducible apply ev_notE) | (with_reducible apply ev_ifE) | (with_reducible apply ev_consMd) | (with_reducible apply ev_consMf) | (with_reducible apply ev_rng1) | (with_reducible apply ev_seqI) | (with_reducible apply ev_lrg1) | (with_reducible apply ev_lrg2) | (with_reducible apply ev_mk)
  | (with_reducible apply dv_addL) | (with_reducible apply dv_addT) | (with_reducible apply dv_cat)
  | (with_reducible exact dv_eqI _ _) | (with_reducible exact dv_neI _ _) | (with_reducible exact dv_eqS _ _) | (with_reducible exact dv_neS _ _)
  | ((with_reducible show eqD _ _ = some _); exact dv_eqS _ _) | ((with_reducible show neD _ _ = some _); exact dv_neS _ _)
  | (with_reducible exact datAll_dsA _ _ _ (by rfl)) | (with_reducible exact datAll_ds _)
  | ((with_reducible show _ ≤ _); sizeOf_list_dec) | ((with_reducible show _ < _); sizeOf_list_dec)
  | ((with_reducible show (_ : Rho) = _); first | (dsimp only [List.set]; done) | exact rfl)
  | ((with_reducible show (_ : Nat) = _); exact rfl)
  | exact (rfl : _ = some _) | exact (rfl : _ = true) | exact (rfl : _ = false)
  | (intro _))
local macro_rules | `(tactic| array_mem_dec) => `(tactic| repeat' first
  | with_reducible assumption
  | (with_reducible exact ev_next) | (with_reducible exact ev_raise0)
  | ((with_reducible apply ev_seqN); (focus (first | ((with_reducible apply ev_asg); (array_get_dec; done)) | ((with_reducible apply ev_asgM); (array_get_dec; done)) | ((with_reducible apply ev_par); (array_get_dec; done)) | ((with_reducible apply ev_drop); (array_get_dec; done)) | ((with_reducible apply ev_aug); (array_get_dec; done)) | ((with_reducible apply ev_put); (array_get_dec; done)) | (with_reducible assumption) | ((with_reducible apply ev_ifS2); (focus ((array_get_dec; done))); (focus ((first | (with_reducible rfl) | (with_reducible assumption) | exact Bool.not_true | exact Bool.not_false | exact decide_eq_true (by first | (with_reducible assumption) | omega) | exact decide_eq_false (by first | (with_reducible assumption) | omega) | exact nd_t (by first | (with_reducible assumption) | omega) | exact nd_f (by first | (with_reducible assumption) | omega) | exact nb_t (by first | (with_reducible assumption) | omega) | exact nb_f (by first | (with_reducible assumption) | omega) | (simp only [decide_true, decide_false, Bool.not_true, Bool.not_false, Bool.true_and, Bool.and_true, Bool.false_and, Bool.and_false, Bool.or_true, Bool.true_or, Bool.or_false, Bool.false_or]; done)))); exact ev_next))); (focus (first | (dsimp only [List.set, setsR]; done) | exact rfl)))
  | ((with_reducible apply ev_seqR); (focus ((with_reducible apply ev_ifS1); (focus ((array_get_dec; done))); (focus ((first | (with_reducible rfl) | (with_reducible assumption) | exact Bool.not_true | exact Bool.not_false | exact decide_eq_true (by first | (with_reducible assumption) | omega) | exact decide_eq_false (by first | (with_reducible assumption) | omega) | exact nd_t (by first | (with_reducible assumption) | omega) | exact nd_f (by first | (with_reducible assumption) | omega) | exact nb_t (by first | (with_reducible assumption) | omega) | exact nb_f (by first | (with_reducible assumption) | omega) | (simp only [decide_true, decide_false, Bool.not_true, Bool.not_false, Bool.true_and, Bool.and_true, Bool.false_and, Bool.and_false, Bool.or_true, Bool.true_or, Bool.or_false, Bool.false_or]; done)))); ((with_reducible apply ev_ret); (array_get_dec; done)))))
  | ((with_reducible apply ev_seqX); (focus ((with_reducible apply ev_ifS1); (focus ((array_get_dec; done))); (focus ((first | (with_reducible rfl) | (with_reducible assumption) | exact Bool.not_true | exact Bool.not_false | exact decide_eq_true (by first | (with_reducible assumption) | omega) | exact decide_eq_false (by first | (with_reducible assumption) | omega) | exact nd_t (by first | (with_reducible assumption) | omega) | exact nd_f (by first | (with_reducible assumption) | omega) | exact nb_t (by first | (with_reducible assumption) | omega) | exact nb_f (by first | (with_reducible assumption) | omega) | (simp only [decide_true, decide_false, Bool.not_true, Bool.not_false, Bool.true_and, Bool.and_true, Bool.false_and, Bool.and_false, Bool.or_true, Bool.true_or, Bool.or_false, Bool.false_or]; done)))); (first | exact ev_raise0 | ((with_reducible apply ev_raise); (array_get_dec; done))))))
  | ((with_reducible apply ev_seqN); (focus ((with_reducible apply ev_ifS1); (focus ((array_get_dec; done))); (focus ((first | (with_reducible rfl) | (with_reducible assumption) | exact Bool.not_true | exact Bool.not_false | exact decide_eq_true (by first | (with_reducible assumption) | omega) | exact decide_eq_false (by first | (with_reducible assumption) | omega) | exact nd_t (by first | (with_reducible assumption) | omega) | exact nd_f (by first | (with_reducible assumption) | omega) | exact nb_t (by first | (with_reducible assumption) | omega) | exact nb_f (by first | (with_reducible assumption) | omega) | (simp only [decide_true, decide_false, Bool.not_true, Bool.not_false, Bool.true_and, Bool.and_true, Bool.false_and, Bool.and_false, Bool.or_true, Bool.true_or, Bool.or_false, Bool.false_or]; done)))); (array_mem_dec; done))); (focus (first | (dsimp only [List.set, setsR]; done) | exact rfl)))
  | ((with_reducible apply ev_ifS1); (focus ((array_get_dec; done))); (focus ((first | (with_reducible rfl) | (with_reducible assumption) | exact Bool.not_true | exact Bool.not_false | exact decide_eq_true (by first | (with_reducible assumption) | omega) | exact decide_eq_false (by first | (with_reducible assumption) | omega) | exact nd_t (by first | (with_reducible assumption) | omega) | exact nd_f (by first | (with_reducible assumption) | omega) | exact nb_t (by first | (with_reducible assumption) | omega) | exact nb_f (by first | (with_reducible assumption) | omega) | (simp only [decide_true, decide_false, Bool.not_true, Bool.not_false, Bool.true_and, Bool.and_true, Bool.false_and, Bool.and_false, Bool.or_true, Bool.true_or, Bool.or_false, Bool.false_or]; done))))) | ((with_reducible apply ev_ifS2); (focus ((array_get_dec; done))); (focus ((first | (with_reducible rfl) | (with_reducible assumption) | exact Bool.not_true | exact Bool.not_false | exact decide_eq_true (by first | (with_reducible assumption) | omega) | exact decide_eq_false (by first | (with_reducible assumption) | omega) | exact nd_t (by first | (with_reducible assumption) | omega) | exact nd_f (by first | (with_reducible assumption) | omega) | exact nb_t (by first | (with_reducible assumption) | omega) | exact nb_f (by first | (with_reducible assumption) | omega) | (simp only [decide_true, decide_false, Bool.not_true, Bool.not_false, Bool.true_and, Bool.and_true, Bool.false_and, Bool.and_false, Bool.or_true, Bool.true_or, Bool.or_false, Bool.false_or]; done)))))
  | ((with_reducible apply ev_ret); (array_get_dec; done)) | ((with_reducible apply ev_retF); (array_get_dec; done)) | ((with_reducible apply ev_asg); (array_get_dec; done)) | ((with_reducible apply ev_asgM); (array_get_dec; done)) | ((with_reducible apply ev_par); (array_get_dec; done)) | ((with_reducible apply ev_drop); (array_get_dec; done)) | ((with_reducible apply ev_aug); (array_get_dec; done)) | ((with_reducible apply ev_put); (array_get_dec; done)) | ((with_reducible apply ev_raise); (array_get_dec; done)))
theorem pickT_ok {k : Nat} {ns : List Int} {x : D} {xs : List D} {c : Int} (hx : listF [x] = some xs) (hb : Bx k ns) (h0 : 0 ≤ c) (h1 : xs.length ≤ 1000) (hk : k < 1000000000) : ∃ ys ns', f_law_pick ns [x, .int c] = some (.lst ys, ns') ∧ (∃ zs, (ys ++ zs).Perm xs) ∧ ys.length = min c.toNat xs.length ∧ Bx (k + min c.toNat xs.length) ns' := by
  obtain ⟨ρ', el, hi⟩ := loop_inv (body := turnS (nameG 5) m_law_pick_b1) (fun j ρ => j ≤ min c.toNat xs.length → ∃ ns ys zs cc, ρ = [.b ns, .d x, .d (.int c), .m zs, .m ys, cc] ∧ isB cc = false ∧ (ys ++ zs).Perm xs ∧ ys.length = j ∧ Bx (k + j) ns) (rng 0 (min c.toNat xs.length)) 0
    [.b ns, .d x, .d (.int c), .m xs, .m [], .no] (fun _ => ⟨ns, [], xs, .no, rfl, rfl, List.Perm.refl _, rfl, hb⟩) (fun j d ρ hj hi => by
      obtain ⟨hj1, rfl⟩ := rng_at hj
      obtain ⟨ns1, ys, zs, cc, rfl, hcc, hp, hl, hb1⟩ := hi (by omega)
      have hle := hp.length_eq
      rw [List.length_append] at hle
      have hz : 0 < zs.length := by omega
      obtain ⟨r, ns2, e, g1, g2, g3⟩ := take_ok hb1 (n := zs.length) (by omega) (by omega) (by omega)
      obtain ⟨q, rfl⟩ : ∃ q : Nat, r = q := ⟨r.toNat, by omega⟩
      have hr : q < zs.length := by omega
      have hg : zs[q]? = some zs[q] := List.getElem?_eq_getElem hr
      have hf : ys.length + 1 ≤ 1000000 := by omega
      refine ⟨[.b ns2, .d x, .d (.int c), .m (zs.eraseIdx q), .m (ys ++ [zs[q]]), .d (.int (0 + (j : Nat)))], ?_, fun _ => ⟨ns2, ys ++ [zs[q]], zs.eraseIdx q, _, rfl, rfl, ?_, by rw [List.length_append, List.length_singleton]; omega, by rw [show k + (0 + j + 1) = k + (0 + j) + 1 by omega]; exact g3⟩⟩
      · refine ev_turn (ρ1 := [.b ns1, .d x, .d (.int c), .m zs, .m ys, .d (.int (0 + (j : Nat)))]) rfl ?_
        unfold m_law_pick_b1
        have ho : onlyB 0 [.b ns1, .d x, .d (.int c), .m zs, .m ys, .d (.int (0 + (j : Nat)))] = true := rfl
        apply Eq.trans
        · array_mem_dec
        · rfl
      · rw [List.append_assoc]
        exact ((erase_perm hr).append_left ys).trans hp)
  rw [rng_len, Nat.zero_add] at hi
  obtain ⟨ns1, ys, zs, cc, rfl, hcc, hp, hl, hb1⟩ := hi (Nat.le_refl _)
  refine ⟨ys, ns1, ?_, ⟨zs, hp⟩, hl, hb1⟩
  have em2 : (if (xs.length : Int) < c then (xs.length : Int) else c) = ((min c.toNat xs.length : Nat) : Int) := by split <;> omega
  have eo : min2D [.int c, .int (xs.length : Nat)] = some (.int ((min c.toNat xs.length : Nat) : Int)) := by rw [← em2]; rfl
  have ei : intD [.int c] = some (.int c) := rfl
  have ell : m_law_pick_l1 [.b ns, .d x, .d (.int c), .m xs, .m [], .no] = .nx [.b ns1, .d x, .d (.int c), .m zs, .m ys, cc] := by
    unfold m_law_pick_l1
    refine ev_for (ds := rng 0 (min c.toNat xs.length)) (ρ1 := [.b ns, .d x, .d (.int c), .m xs, .m [], .no]) ?_ el
    apply ev_rng1
    · array_get_dec
    · omega
  refine ev_runBm [.b ns, .d x, .d (.int c), .no, .no, .no] 4 ?_
  refine ⟨[.b ns1, .d x, .d (.int c), .m zs, .m ys, cc], ?_, rfl, rfl⟩
  unfold m_law_pick
  apply Eq.trans
  · array_mem_dec
  · rfl
end Lw
namespace Lw
open PySem Lq
local macro_rules | `(tactic| sizeOf_list_dec) => `(tactic| first | omega | (simp only [List.length_append, List.length_map, List.length_cons, List.length_nil, List.length_take, List.length_drop, List.length_reverse, List.length_set, List.length_replicate, List.length_singleton, List.length_range]; omega) | (simp; omega))
local macro_rules | `(tactic| array_get_dec) => `(tactic| repeat' first
  | with_reducible assumption
  | (with_reducible exact ev_const) | (with_reducible exact ev_nilA) | (with_reducible exact ev_nilM) | (with_reducible exact ev_noPart) | (with_reducible exact ev_dfA) | (with_reducible exact ev_mk0)
  | ((with_reducible apply ev_name); (exact rfl)) | ((with_reducible apply ev_nameM); (exact rfl)) | ((with_reducible apply ev_nameB); (exact rfl))
  | (with_reducible apply ev_consA) | (with_reducible apply ev_op2) | (with_reducible apply ev_op1) | (with_reducible apply ev_opN) | (with_reducible apply ev_call) | (with_reducible apply ev_val) | (with_reducible apply ev_notT)
  | ((with_reducible apply ev_and1); (focus ((array_get_dec; done))); (focus ((first | (with_reducible rfl) | (with_reducible assumption) | exact Bool.not_true | exact Bool.not_false | exact decide_eq_true (by first | (with_reducible assumption) | omega) | exact decide_eq_false (by first | (with_reducible assumption) | omega) | exact nd_t (by first | (with_reducible assumption) | omega) | exact nd_f (by first | (with_reducible assumption) | omega) | exact nb_t (by first | (with_reducible assumption) | omega) | exact nb_f (by first | (with_reducible assumption) | omega) | (simp only [decide_true, decide_false, Bool.not_true, Bool.not_false, Bool.true_and, Bool.and_true, Bool.false_and, Bool.and_false, Bool.or_true, Bool.true_or, Bool.or_false, Bool.false_or]; done))))) | ((with_reducible apply ev_and2); (focus ((array_get_dec; done))); (focus ((first | (with_reducible rfl) | (with_reducible assumption) | exact Bool.not_true | exact Bool.not_false | exact decide_eq_true (by first | (with_reducible assumption) | omega) | exact decide_eq_false (by first | (with_reducible assumption) | omega) | exact nd_t (by first | (with_reducible assumption) | omega) | exact nd_f (by first | (with_reducible assumption) | omega) | exact nb_t (by first | (with_reducible assumption) | omega) | exact nb_f (by first | (with_reducible assumption) | omega) | (simp only [decide_true, decide_false, Bool.not_true, Bool.not_false, Bool.true_and, Bool.and_true, Bool.false_and, Bool.and_false, Bool.or_true, Bool.true_or, Bool.or_false, Bool.false_or]; done))))) | ((with_reducible apply ev_or1); (focus ((array_get_dec; done))); (focus ((first | (with_reducible rfl) | (with_reducible assumption) | exact Bool.not_true | exact Bool.not_false | exact decide_eq_true (by first | (with_reducible assumption) | omega) | exact decide_eq_false (by first | (with_reducible assumption) | omega) | exact nd_t (by first | (with_reducible assumption) | omega) | exact nd_f (by first | (with_reducible assumption) | omega) | exact nb_t (by first | (with_reducible assumption) | omega) | exact nb_f (by first | (with_reducible assumption) | omega) | (simp only [decide_true, decide_false, Bool.not_true, Bool.not_false, Bool.true_and, Bool.and_true, Bool.false_and, Bool.and_false, Bool.or_true, Bool.true_or, Bool.or_false, Bool.false_or]; done))))) | ((with_reducible apply ev_or2); (focus ((array_get_dec; done))); (focus ((first | (with_reducible rfl) | (with_reducible assumption) | exact Bool.not_true | exact Bool.not_false | exact decide_eq_true (by first | (with_reducible assumption) | omega) | exact decide_eq_false (by first | (with_reducible assumption) | omega) | exact nd_t (by first | (with_reducible assumption) | omega) | exact nd_f (by first | (with_reducible assumption) | omega) | exact nb_t (by first | (with_reducible assumption) | omega) | exact nb_f (by first | (with_reducible assumption) | omega) | (simp only [decide_true, decide_false, Bool.not_true, Bool.not_false, Bool.true_and, Bool.and_true, Bool.false_and, Bool.and_false, Bool.or_true, Bool.true_or, Bool.or_false, Bool.false_or]; done))))) | ((with_reducible apply ev_ifE1); (focus ((array_get_dec; done))); (focus ((first | (with_reducible rfl) | (with_reducible assumption) | exact Bool.not_true | exact Bool.not_false | exact decide_eq_true (by first | (with_reducible assumption) | omega) | exact decide_eq_false (by first | (with_reducible assumption) | omega) | exact nd_t (by first | (with_reducible assumption) | omega) | exact nd_f (by first | (with_reducible assumption) | omega) | exact nb_t (by first | (with_reducible assumption) | omega) | exact nb_f (by first | (with_reducible assumption) | omega) | (simp only [decide_true, decide_false, Bool.not_true, Bool.not_false, Bool.true_and, Bool.and_true, Bool.false_and, Bool.and_false, Bool.or_true, Bool.true_or, Bool.or_false, Bool.false_or]; done))))) | ((with_reducible apply ev_ifE2); (focus ((array_get_dec; done))); (focus ((first | (with_reducible rfl) | (with_reducible assumption) | exact Bool.not_true | exact Bool.not_false | exact decide_eq_true (by first | (with_reducible assumption) | omega) | exact decide_eq_false (by first | (with_reducible assumption) | omega) | exact nd_t (by first | (with_reducible assumption) | omega) | exact nd_f (by first | (with_reducible assumption) | omega) | exact nb_t (by first | (with_reducible assumption) | omega) | exact nb_f (by first | (with_reducible assumption) | omega) | (simp only [decide_true, decide_false, Bool.not_true, Bool.not_false, Bool.true_and, Bool.and_true, Bool.false_and, Bool.and_false, Bool.or_true, Bool.true_or, Bool.or_false, Bool.false_or]; done))))) | ((with_reducible apply ev_ifF1); (focus ((array_get_dec; done))); (focus ((first | (with_reducible rfl) | (with_reducible assumption) | exact Bool.not_true | exact Bool.not_false | exact decide_eq_true (by first | (with_reducible assumption) | omega) | exact decide_eq_false (by first | (with_reducible assumption) | omega) | exact nd_t (by first | (with_reducible assumption) | omega) | exact nd_f (by first | (with_reducible assumption) | omega) | exact nb_t (by first | (with_reducible assumption) | omega) | exact nb_f (by first | (with_reducible assumption) | omega) | (simp only [decide_true, decide_false, Bool.not_true, Bool.not_false, Bool.true_and, Bool.and_true, Bool.false_and, Bool.and_false, Bool.or_true, Bool.true_or, Bool.or_false, Bool.false_or]; done))))) | ((with_reducible apply ev_ifF2); (focus ((array_get_dec; done))); (focus ((first | (with_reducible rfl) | (with_reducible assumption) | exact Bool.not_true | exact Bool.not_false | exact decide_eq_true (by first | (with_reducible assumption) | omega) | exact decide_eq_false (by first | (with_reducible assumption) | omega) | exact nd_t (by first | (with_reducible assumption) | omega) | exact nd_f (by first | (with_reducible assumption) | omega) | exact nb_t (by first | (with_reducible assumption) | omega) | exact nb_f (by first | (with_reducible assumption) | omega) | (simp only [decide_true, decide_false, Bool.not_true, Bool.not_false, Bool.true_and, Bool.and_true, Bool.false_and, Bool.and_false, Bool.or_true, Bool.true_or, Bool.or_false, Bool.false_or]; done)))))
  | (with_reducible apply ev_and) | (with_reducible apply ev_or) | (with_reducible apply ev_frz) | (with_reducible apply ev_tup) | (with_reducible apply ev_lst) | (with_reducible apply ev_opNF) | (with_reducible apply ev_op2F) | (with_reducible apply ev_callB) | (with_reducible apply ev_starA) | (with_reducible apply ev_permA) | (with_reducible apply ev_app) | (with_reducible apply ev_ext) | (with_reducible apply ev_pop) | (with_reducible apply ev_rem) | (with_reducible apply ev_aPart) | (with_reducible apply ev_sl) | (with_reducible apply ev_ixT) | (with_reducible apply ev_andE) | (with_reducible apply ev_orE) | (with_reducible apply ev_notE) | (with_reducible apply ev_ifE) | (with_reducible apply ev_consMd) | (with_reducible apply ev_consMf) | (with_reducible apply ev_rng1) | (with_reducible apply ev_seqI) | (with_reducible apply ev_lrg1) | (with_reducible apply ev_lrg2) | (with_reducible apply ev_mk)
  | (with_reducible apply dv_addL) | (with_reducible apply dv_addT) | (with_reducible apply dv_cat)
  | (with_reducible exact dv_eqI _ _) | (with_reducible exact dv_neI _ _) | (with_reducible exact dv_eqS _ _) | (with_reducible exact dv_neS _ _)
  | ((with_reducible show eqD _ _ = some _); exact dv_eqS _ _) | ((with_reducible show neD _ _ = some _); exact dv_neS _ _)
  | (with_reducible exact datAll_dsA _ _ _ (by rfl)) | (with_reducible exact datAll_ds _)
  | ((with_reducible show _ ≤ _); sizeOf_list_dec) | ((with_reducible show _ < _); sizeOf_list_dec)
  | ((with_reducible show (_ : Rho) = _); first | (dsimp only [List.set]; done) | exact rfl)
  | ((with_reducible show (_ : Nat) = _); exact rfl)
  | exact (rfl : _ = some _) | exact (rfl : _ = true) | exact (rfl : _ = false)
  | (intro _))
local macro_rules | `(tactic| array_mem_dec) => `(tactic| repeat' first
  | with_reducible assumption
  | (with_reducible exact ev_next) | (with_reducible exact ev_raise0)
  | ((with_reducible apply ev_seqN); (focus (first | ((with_reducible apply ev_asg); (array_get_dec; done)) | ((with_reducible apply ev_asgM); (array_get_dec; done)) | ((with_reducible apply ev_par); (array_get_dec; done)) | ((with_reducible apply ev_drop); (array_get_dec; done)) | ((with_reducible apply ev_aug); (array_get_dec; done)) | ((with_reducible apply ev_put); (array_get_dec; done)) | (with_reducible assumption) | ((with_reducible apply ev_ifS2); (focus ((array_get_dec; done))); (focus ((first | (with_reducible rfl) | (with_reducible assumption) | exact Bool.not_true | exact Bool.not_false | exact decide_eq_true (by first | (with_reducible assumption) | omega) | exact decide_eq_false (by first | (with_reducible assumption) | omega) | exact nd_t (by first | (with_reducible assumption) | omega) | exact nd_f (by first | (with_reducible assumption) | omega) | exact nb_t (by first | (with_reducible assumption) | omega) | exact nb_f (by first | (with_reducible assumption) | omega) | (simp only [decide_true, decide_false, Bool.not_true, Bool.not_false, Bool.true_and, Bool.and_true, Bool.false_and, Bool.and_false, Bool.or_true, Bool.true_or, Bool.or_false, Bool.false_or]; done)))); exact ev_next))); (focus (first | (dsimp only [List.set, setsR]; done) | exact rfl)))
  | ((with_reducible apply ev_seqR); (focus ((with_reducible apply ev_ifS1); (focus ((array_get_dec; done))); (focus ((first | (with_reducible rfl) | (with_reducible assumption) | exact Bool.not_true | exact Bool.not_false | exact decide_eq_true (by first | (with_reducible assumption) | omega) | exact decide_eq_false (by first | (with_reducible assumption) | omega) | exact nd_t (by first | (with_reducible assumption) | omega) | exact nd_f (by first | (with_reducible assumption) | omega) | exact nb_t (by first | (with_reducible assumption) | omega) | exact nb_f (by first | (with_reducible assumption) | omega) | (simp only [decide_true, decide_false, Bool.not_true, Bool.not_false, Bool.true_and, Bool.and_true, Bool.false_and, Bool.and_false, Bool.or_true, Bool.true_or, Bool.or_false, Bool.false_or]; done)))); ((with_reducible apply ev_ret); (array_get_dec; done)))))
  | ((with_reducible apply ev_seqX); (focus ((with_reducible apply ev_ifS1); (focus ((array_get_dec; done))); (focus ((first | (with_reducible rfl) | (with_reducible assumption) | exact Bool.not_true | exact Bool.not_false | exact decide_eq_true (by first | (with_reducible assumption) | omega) | exact decide_eq_false (by first | (with_reducible assumption) | omega) | exact nd_t (by first | (with_reducible assumption) | omega) | exact nd_f (by first | (with_reducible assumption) | omega) | exact nb_t (by first | (with_reducible assumption) | omega) | exact nb_f (by first | (with_reducible assumption) | omega) | (simp only [decide_true, decide_false, Bool.not_true, Bool.not_false, Bool.true_and, Bool.and_true, Bool.false_and, Bool.and_false, Bool.or_true, Bool.true_or, Bool.or_false, Bool.false_or]; done)))); (first | exact ev_raise0 | ((with_reducible apply ev_raise); (array_get_dec; done))))))
  | ((with_reducible apply ev_seqN); (focus ((with_reducible apply ev_ifS1); (focus ((array_get_dec; done))); (focus ((first | (with_reducible rfl) | (with_reducible assumption) | exact Bool.not_true | exact Bool.not_false | exact decide_eq_true (by first | (with_reducible assumption) | omega) | exact decide_eq_false (by first | (with_reducible assumption) | omega) | exact nd_t (by first | (with_reducible assumption) | omega) | exact nd_f (by first | (with_reducible assumption) | omega) | exact nb_t (by first | (with_reducible assumption) | omega) | exact nb_f (by first | (with_reducible assumption) | omega) | (simp only [decide_true, decide_false, Bool.not_true, Bool.not_false, Bool.true_and, Bool.and_true, Bool.false_and, Bool.and_false, Bool.or_true, Bool.true_or, Bool.or_false, Bool.false_or]; done)))); (array_mem_dec; done))); (focus (first | (dsimp only [List.set, setsR]; done) | exact rfl)))
  | ((with_reducible apply ev_ifS1); (focus ((array_get_dec; done))); (focus ((first | (with_reducible rfl) | (with_reducible assumption) | exact Bool.not_true | exact Bool.not_false | exact decide_eq_true (by first | (with_reducible assumption) | omega) | exact decide_eq_false (by first | (with_reducible assumption) | omega) | exact nd_t (by first | (with_reducible assumption) | omega) | exact nd_f (by first | (with_reducible assumption) | omega) | exact nb_t (by first | (with_reducible assumption) | omega) | exact nb_f (by first | (with_reducible assumption) | omega) | (simp only [decide_true, decide_false, Bool.not_true, Bool.not_false, Bool.true_and, Bool.and_true, Bool.false_and, Bool.and_false, Bool.or_true, Bool.true_or, Bool.or_false, Bool.false_or]; done))))) | ((with_reducible apply ev_ifS2); (focus ((array_get_dec; done))); (focus ((first | (with_reducible rfl) | (with_reducible assumption) | exact Bool.not_true | exact Bool.not_false | exact decide_eq_true (by first | (with_reducible assumption) | omega) | exact decide_eq_false (by first | (with_reducible assumption) | omega) | exact nd_t (by first | (with_reducible assumption) | omega) | exact nd_f (by first | (with_reducible assumption) | omega) | exact nb_t (by first | (with_reducible assumption) | omega) | exact nb_f (by first | (with_reducible assumption) | omega) | (simp only [decide_true, decide_false, Bool.not_true, Bool.not_false, Bool.true_and, Bool.and_true, Bool.false_and, Bool.and_false, Bool.or_true, Bool.true_or, Bool.or_false, Bool.false_or]; done)))))
  | ((with_reducible apply ev_ret); (array_get_dec; done)) | ((with_reducible apply ev_retF); (array_get_dec; done)) | ((with_reducible apply ev_asg); (array_get_dec; done)) | ((with_reducible apply ev_asgM); (array_get_dec; done)) | ((with_reducible apply ev_par); (array_get_dec; done)) | ((with_reducible apply ev_drop); (array_get_dec; done)) | ((with_reducible apply ev_aug); (array_get_dec; done)) | ((with_reducible apply ev_put); (array_get_dec; done)) | ((with_reducible apply ev_raise); (array_get_dec; done)))
theorem perm_strs {ws : List Str} {ys : List D} (h : ys.Perm (ws.map D.str)) : ∃ vs : List Str, ys = vs.map D.str ∧ vs.Perm ws := by
  obtain ⟨vs, rfl, _⟩ := drawn_strs (xs := ws) (ys := ys) fun y hy => h.mem_iff.1 hy
  refine ⟨vs, rfl, ?_⟩
  have h2 := h.map (fun d => match d with | D.str w => w | _ => "")
  rw [List.map_map, List.map_map] at h2
  have e : ∀ l : List Str, l.map ((fun d => match d with | D.str w => w | _ => "") ∘ D.str) = l := fun l => List.map_id l
  rw [e, e] at h2
  exact h2
/-! ### lists of texts -/
def sT (L : List Str) : D := .tup (L.map D.str)
def sL (L : List Str) : D := .lst (L.map D.str)
theorem ct_toL (v : List D) (q : Nat) : cutD (.lst v) none (some (q : Int)) = some (.lst (v.take q)) := by
  show some (D.lst _) = _; rw [cutL_to]
theorem ct_toT (v : List D) (q : Nat) : cutD (.tup v) none (some (q : Int)) = some (.tup (v.take q)) := by
  show some (D.tup _) = _; rw [cutL_to]
theorem ct_atL (v : List D) (q : Nat) : cutD (.lst v) (some (q : Int)) none = some (.lst (v.drop q)) := by
  show some (D.lst _) = _; rw [cutL_at]
theorem ct_atT (v : List D) (q : Nat) : cutD (.tup v) (some (q : Int)) none = some (.tup (v.drop q)) := by
  show some (D.tup _) = _; rw [cutL_at]
theorem atL_of {v : List D} {i : Nat} {y : D} {k : Int} (h : v[i]? = some y) (hk : k = (i : Int)) : atD (.lst v) (.int k) = some y := by subst hk; exact dv_atL h
theorem atT_of {v : List D} {i : Nat} {y : D} {k : Int} (h : v[i]? = some y) (hk : k = (i : Int)) : atD (.tup v) (.int k) = some y := by subst hk; exact dv_atT h
theorem sub_nat (i : Nat) : subD (.int ((i + 1 : Nat) : Int)) (.int 1) = some (.int (i : Nat)) := by
  show some (D.int (((i + 1 : Nat) : Int) - 1)) = _; congr 2; omega
theorem add_nat (i : Nat) : addD (.int (i : Nat)) (.int 1) = some (.int ((i + 1 : Nat) : Int)) := by
  show some (D.int ((i : Int) + 1)) = _; congr 2
theorem good_strs (n : Nat) {L : List Str} (h : L.length ≤ 1000000) : good (n + 2) (sT L) = true := good_tup (by simpa using h) fun x hx => by
  obtain ⟨w, _, rfl⟩ := List.mem_map.1 hx; rfl
theorem good_strsL (n : Nat) {L : List Str} (h : L.length ≤ 1000000) : good (n + 2) (sL L) = true := good_lst (by simpa using h) fun x hx => by
  obtain ⟨w, _, rfl⟩ := List.mem_map.1 hx; rfl
theorem good_cT {n : Nat} {x : D} {xs : List D} (h1 : good n x = true) (h2 : good (n + 1) (.tup xs) = true) (hl : xs.length < 1000000 := by simp) : good (n + 1) (.tup (x :: xs)) = true :=
  good_tup (by rw [List.length_cons]; omega) fun y hy => by
    rcases List.mem_cons.1 hy with rfl | hy
    · exact h1
    · unfold good at h2; rw [Bool.and_eq_true, List.all_eq_true] at h2; exact h2.2 y hy
theorem good_cL {n : Nat} {x : D} {xs : List D} (h1 : good n x = true) (h2 : good (n + 1) (.lst xs) = true) (hl : xs.length < 1000000 := by simp) : good (n + 1) (.lst (x :: xs)) = true :=
  good_lst (by rw [List.length_cons]; omega) fun y hy => by
    rcases List.mem_cons.1 hy with rfl | hy
    · exact h1
    · unfold good at h2; rw [Bool.and_eq_true, List.all_eq_true] at h2; exact h2.2 y hy
end Lw
namespace Lw
open PySem Lq
local macro_rules | `(tactic| sizeOf_list_dec) => `(tactic| first | omega | (simp only [List.length_append, List.length_map, List.length_cons, List.length_nil, List.length_take, List.length_drop, List.length_reverse, List.length_set, List.length_replicate, List.length_singleton, List.length_range]; omega) | (simp; omega))
local macro_rules | `(tactic| array_get_dec) => `(tactic| repeat' first
  | with_reducible assumption
  | (with_reducible exact ev_const) | (with_reducible exact ev_nilA) | (with_reducible exact ev_nilM) | (with_reducible exact ev_noPart) | (with_reducible exact ev_dfA) | (with_reducible exact ev_mk0)
  | ((with_reducible apply ev_name); (exact rfl)) | ((with_reducible apply ev_nameM); (exact rfl)) | ((with_reducible apply ev_nameB); (exact rfl))
  | (with_reducible apply ev_consA) | (with_reducible apply ev_op2) | (with_reducible apply ev_op1) | (with_reducible apply ev_opN) | (with_reducible apply ev_call) | (with_reducible apply ev_val) | (with_reducible apply ev_notT)
  | ((with_reducible apply ev_and1); (focus ((array_get_dec; done))); (focus ((first | (with_reducible rfl) | (with_reducible assumption) | exact Bool.not_true | exact Bool.not_false | exact decide_eq_true (by first | (with_reducible assumption) | omega) | exact decide_eq_false (by first | (with_reducible assumption) | omega) | exact nd_t (by first | (with_reducible assumption) | omega) | exact nd_f (by first | (with_reducible assumption) | omega) | exact nb_t (by first | (with_reducible assumption) | omega) | exact nb_f (by first | (with_reducible assumption) | omega) | (simp only [decide_true, decide_false, Bool.not_true, Bool.not_false, Bool.true_and, Bool.and_true, Bool.false_and, Bool.and_false, Bool.or_true, Bool.true_or, Bool.or_false, Bool.false_or]; done))))) | ((with_reducible apply ev_and2); (focus ((array_get_dec; done))); (focus ((first | (with_reducible rfl) | (with_reducible assumption) | exact Bool.not_true | exact Bool.not_false | exact decide_eq_true (by first | (with_reducible assumption) | omega) | exact decide_eq_false (by first | (with_reducible assumption) | omega) | exact nd_t (by first | (with_reducible assumption) | omega) | exact nd_f (by first | (with_reducible assumption) | omega) | exact nb_t (by first | (with_reducible assumption) | omega) | exact nb_f (by first | (with_reducible assumption) | omega) | (simp only [decide_true, decide_false, Bool.not_true, Bool.not_false, Bool.true_and, Bool.and_true, Bool.false_and, Bool.and_false, Bool.or_true, Bool.true_or, Bool.or_false, Bool.false_or]; done))))) | ((with_reducible apply ev_or1); (focus ((array_get_dec; done))); (focus ((first | (with_reducible rfl) | (with_reducible assumption) | exact Bool.not_true | exact Bool.not_false | exact decide_eq_true (by first | (with_reducible assumption) | omega) | exact decide_eq_false (by first | (with_reducible assumption) | omega) | exact nd_t (by first | (with_reducible assumption) | omega) | exact nd_f (by first | (with_reducible assumption) | omega) | exact nb_t (by first | (with_reducible assumption) | omega) | exact nb_f (by first | (with_reducible assumption) | omega) | (simp only [decide_true, decide_false, Bool.not_true, Bool.not_false, Bool.true_and, Bool.and_true, Bool.false_and, Bool.and_false, Bool.or_true, Bool.true_or, Bool.or_false, Bool.false_or]; done))))) | ((with_reducible apply ev_or2); (focus ((array_get_dec; done))); (focus ((first | (with_reducible rfl) | (with_reducible assumption) | exact Bool.not_true | exact Bool.not_false | exact decide_eq_true (by first | (with_reducible assumption) | omega) | exact decide_eq_false (by first | (with_reducible assumption) | omega) | exact nd_t (by first | (with_reducible assumption) | omega) | exact nd_f (by first | (with_reducible assumption) | omega) | exact nb_t (by first | (with_reducible assumption) | omega) | exact nb_f (by first | (with_reducible assumption) | omega) | (simp only [decide_true, decide_false, Bool.not_true, Bool.not_false, Bool.true_and, Bool.and_true, Bool.false_and, Bool.and_false, Bool.or_true, Bool.true_or, Bool.or_false, Bool.false_or]; done))))) | ((with_reducible apply ev_ifE1); (focus ((array_get_dec; done))); (focus ((first | (with_reducible rfl) | (with_reducible assumption) | exact Bool.not_true | exact Bool.not_false | exact decide_eq_true (by first | (with_reducible assumption) | omega) | exact decide_eq_false (by first | (with_reducible assumption) | omega) | exact nd_t (by first | (with_reducible assumption) | omega) | exact nd_f (by first | (with_reducible assumption) | omega) | exact nb_t (by first | (with_reducible assumption) | omega) | exact nb_f (by first | (with_reducible assumption) | omega) | (simp only [decide_true, decide_false, Bool.not_true, Bool.not_false, Bool.true_and, Bool.and_true, Bool.false_and, Bool.and_false, Bool.or_true, Bool.true_or, Bool.or_false, Bool.false_or]; done))))) | ((with_reducible apply ev_ifE2); (focus ((array_get_dec; done))); (focus ((first | (with_reducible rfl) | (with_reducible assumption) | exact Bool.not_true | exact Bool.not_false | exact decide_eq_true (by first | (with_reducible assumption) | omega) | exact decide_eq_false (by first | (with_reducible assumption) | omega) | exact nd_t (by first | (with_reducible assumption) | omega) | exact nd_f (by first | (with_reducible assumption) | omega) | exact nb_t (by first | (with_reducible assumption) | omega) | exact nb_f (by first | (with_reducible assumption) | omega) | (simp only [decide_true, decide_false, Bool.not_true, Bool.not_false, Bool.true_and, Bool.and_true, Bool.false_and, Bool.and_false, Bool.or_true, Bool.true_or, Bool.or_false, Bool.false_or]; done))))) | ((with_reducible apply ev_ifF1); (focus ((array_get_dec; done))); (focus ((first | (with_reducible rfl) | (with_reducible assumption) | exact Bool.not_true | exact Bool.not_false | exact decide_eq_true (by first | (with_reducible assumption) | omega) | exact decide_eq_false (by first | (with_reducible assumption) | omega) | exact nd_t (by first | (with_reducible assumption) | omega) | exact nd_f (by first | (with_reducible assumption) | omega) | exact nb_t (by first | (with_reducible assumption) | omega) | exact nb_f (by first | (with_reducible assumption) | omega) | (simp only [decide_true, decide_false, Bool.not_true, Bool.not_false, Bool.true_and, Bool.and_true, Bool.false_and, Bool.and_false, Bool.or_true, Bool.true_or, Bool.or_false, Bool.false_or]; done))))) | ((with_reducible apply ev_ifF2); (focus ((array_get_dec; done))); (focus ((first | (with_reducible rfl) | (with_reducible assumption) | exact Bool.not_true | exact Bool.not_false | exact decide_eq_true (by first | (with_reducible assumption) | omega) | exact decide_eq_false (by first | (with_reducible assumption) | omega) | exact nd_t (by first | (with_reducible assumption) | omega) | exact nd_f (by first | (with_reducible assumption) | omega) | exact nb_t (by first | (with_reducible assumption) | omega) | exact nb_f (by first | (with_reducible assumption) | omega) | (simp only [decide_true, decide_false, Bool.not_true, Bool.not_false, Bool.true_and, Bool.and_true, Bool.false_and, Bool.and_false, Bool.or_true, Bool.true_or, Bool.or_false, Bool.false_or]; done)))))
  | (with_reducible apply ev_and) | (with_reducible apply ev_or) | (with_reducible apply ev_frz) | (with_reducible apply ev_tup) | (with_reducible apply ev_lst) | (with_reducible apply ev_opNF) | (with_reducible apply ev_op2F) | (with_reducible apply ev_callB) | (with_reducible apply ev_starA) | (with_reducible apply ev_permA) | (with_reducible apply ev_app) | (with_reducible apply ev_ext) | (with_reducible apply ev_pop) | (with_reducible apply ev_rem) | (with_reducible apply ev_aPart) | (with_reducible apply ev_sl) | (with_reducible apply ev_ixT) | (with_reducible apply ev_andE) | (with_reducible apply ev_orE) | (with_reducible apply ev_notE) | (with_reducible apply ev_ifE) | (with_reducible apply ev_consMd) | (with_reducible apply ev_consMf) | (with_reducible apply ev_rng1) | (with_reducible apply ev_seqI) | (with_reducible apply ev_lrg1) | (with_reducible apply ev_lrg2) | (with_reducible apply ev_mk)
  | (with_reducible apply dv_addL) | (with_reducible apply dv_addT) | (with_reducible apply dv_cat)
  | (with_reducible exact dv_eqI _ _) | (with_reducible exact dv_neI _ _) | (with_reducible exact dv_eqS _ _) | (with_reducible exact dv_neS _ _)
  | ((with_reducible show eqD _ _ = some _); exact dv_eqS _ _) | ((with_reducible show neD _ _ = some _); exact dv_neS _ _)
  | (with_reducible exact datAll_dsA _ _ _ (by rfl)) | (with_reducible exact datAll_ds _)
  | ((with_reducible show _ ≤ _); sizeOf_list_dec) | ((with_reducible show _ < _); sizeOf_list_dec)
  | ((with_reducible show (_ : Rho) = _); first | (dsimp only [List.set]; done) | exact rfl)
  | ((with_reducible show (_ : Nat) = _); exact rfl)
  | exact (rfl : _ = some _) | exact (rfl : _ = true) | exact (rfl : _ = false)
  | (intro _))
local macro_rules | `(tactic| array_mem_dec) => `(tactic| repeat' first
  | with_reducible assumption
  | (with_reducible exact ev_next) | (with_reducible exact ev_raise0)
  | ((with_reducible apply ev_seqN); (focus (first | ((with_reducible apply ev_asg); (array_get_dec; done)) | ((with_reducible apply ev_asgM); (array_get_dec; done)) | ((with_reducible apply ev_par); (array_get_dec; done)) | ((with_reducible apply ev_drop); (array_get_dec; done)) | ((with_reducible apply ev_aug); (array_get_dec; done)) | ((with_reducible apply ev_put); (array_get_dec; done)) | (with_reducible assumption) | ((with_reducible apply ev_ifS2); (focus ((array_get_dec; done))); (focus ((first | (with_reducible rfl) | (with_reducible assumption) | exact Bool.not_true | exact Bool.not_false | exact decide_eq_true (by first | (with_reducible assumption) | omega) | exact decide_eq_false (by first | (with_reducible assumption) | omega) | exact nd_t (by first | (with_reducible assumption) | omega) | exact nd_f (by first | (with_reducible assumption) | omega) | exact nb_t (by first | (with_reducible assumption) | omega) | exact nb_f (by first | (with_reducible assumption) | omega) | (simp only [decide_true, decide_false, Bool.not_true, Bool.not_false, Bool.true_and, Bool.and_true, Bool.false_and, Bool.and_false, Bool.or_true, Bool.true_or, Bool.or_false, Bool.false_or]; done)))); exact ev_next))); (focus (first | (dsimp only [List.set, setsR]; done) | exact rfl)))
  | ((with_reducible apply ev_seqR); (focus ((with_reducible apply ev_ifS1); (focus ((array_get_dec; done))); (focus ((first | (with_reducible rfl) | (with_reducible assumption) | exact Bool.not_true | exact Bool.not_false | exact decide_eq_true (by first | (with_reducible assumption) | omega) | exact decide_eq_false (by first | (with_reducible assumption) | omega) | exact nd_t (by first | (with_reducible assumption) | omega) | exact nd_f (by first | (with_reducible assumption) | omega) | exact nb_t (by first | (with_reducible assumption) | omega) | exact nb_f (by first | (with_reducible assumption) | omega) | (simp only [decide_true, decide_false, Bool.not_true, Bool.not_false, Bool.true_and, Bool.and_true, Bool.false_and, Bool.and_false, Bool.or_true, Bool.true_or, Bool.or_false, Bool.false_or]; done)))); ((with_reducible apply ev_ret); (array_get_dec; done)))))
  | ((with_reducible apply ev_seqX); (focus ((with_reducible apply ev_ifS1); (focus ((array_get_dec; done))); (focus ((first | (with_reducible rfl) | (with_reducible assumption) | exact Bool.not_true | exact Bool.not_false | exact decide_eq_true (by first | (with_reducible assumption) | omega) | exact decide_eq_false (by first | (with_reducible assumption) | omega) | exact nd_t (by first | (with_reducible assumption) | omega) | exact nd_f (by first | (with_reducible assumption) | omega) | exact nb_t (by first | (with_reducible assumption) | omega) | exact nb_f (by first | (with_reducible assumption) | omega) | (simp only [decide_true, decide_false, Bool.not_true, Bool.not_false, Bool.true_and, Bool.and_true, Bool.false_and, Bool.and_false, Bool.or_true, Bool.true_or, Bool.or_false, Bool.false_or]; done)))); (first | exact ev_raise0 | ((with_reducible apply ev_raise); (array_get_dec; done))))))
  | ((with_reducible apply ev_seqN); (focus ((with_reducible apply ev_ifS1); (focus ((array_get_dec; done))); (focus ((first | (with_reducible rfl) | (with_reducible assumption) | exact Bool.not_true | exact Bool.not_false | exact decide_eq_true (by first | (with_reducible assumption) | omega) | exact decide_eq_false (by first | (with_reducible assumption) | omega) | exact nd_t (by first | (with_reducible assumption) | omega) | exact nd_f (by first | (with_reducible assumption) | omega) | exact nb_t (by first | (with_reducible assumption) | omega) | exact nb_f (by first | (with_reducible assumption) | omega) | (simp only [decide_true, decide_false, Bool.not_true, Bool.not_false, Bool.true_and, Bool.and_true, Bool.false_and, Bool.and_false, Bool.or_true, Bool.true_or, Bool.or_false, Bool.false_or]; done)))); (array_mem_dec; done))); (focus (first | (dsimp only [List.set, setsR]; done) | exact rfl)))
  | ((with_reducible apply ev_ifS1); (focus ((array_get_dec; done))); (focus ((first | (with_reducible rfl) | (with_reducible assumption) | exact Bool.not_true | exact Bool.not_false | exact decide_eq_true (by first | (with_reducible assumption) | omega) | exact decide_eq_false (by first | (with_reducible assumption) | omega) | exact nd_t (by first | (with_reducible assumption) | omega) | exact nd_f (by first | (with_reducible assumption) | omega) | exact nb_t (by first | (with_reducible assumption) | omega) | exact nb_f (by first | (with_reducible assumption) | omega) | (simp only [decide_true, decide_false, Bool.not_true, Bool.not_false, Bool.true_and, Bool.and_true, Bool.false_and, Bool.and_false, Bool.or_true, Bool.true_or, Bool.or_false, Bool.false_or]; done))))) | ((with_reducible apply ev_ifS2); (focus ((array_get_dec; done))); (focus ((first | (with_reducible rfl) | (with_reducible assumption) | exact Bool.not_true | exact Bool.not_false | exact decide_eq_true (by first | (with_reducible assumption) | omega) | exact decide_eq_false (by first | (with_reducible assumption) | omega) | exact nd_t (by first | (with_reducible assumption) | omega) | exact nd_f (by first | (with_reducible assumption) | omega) | exact nb_t (by first | (with_reducible assumption) | omega) | exact nb_f (by first | (with_reducible assumption) | omega) | (simp only [decide_true, decide_false, Bool.not_true, Bool.not_false, Bool.true_and, Bool.and_true, Bool.false_and, Bool.and_false, Bool.or_true, Bool.true_or, Bool.or_false, Bool.false_or]; done)))))
  | ((with_reducible apply ev_ret); (array_get_dec; done)) | ((with_reducible apply ev_retF); (array_get_dec; done)) | ((with_reducible apply ev_asg); (array_get_dec; done)) | ((with_reducible apply ev_asgM); (array_get_dec; done)) | ((with_reducible apply ev_par); (array_get_dec; done)) | ((with_reducible apply ev_drop); (array_get_dec; done)) | ((with_reducible apply ev_aug); (array_get_dec; done)) | ((with_reducible apply ev_put); (array_get_dec; done)) | ((with_reducible apply ev_raise); (array_get_dec; done)))
/-! ### changed lists: the functions -/
theorem len_of {x : D} {L : List Str} (hx : x.items? = some (L.map D.str)) : lenD [x] = some (.int L.length) := by
  cases x <;> simp [D.items?] at hx <;> (subst hx; rw [lenD, List.length_map])
def swp (L : List Str) (i : Nat) (a b : Str) : List Str := L.take i ++ (b :: a :: L.drop (i + 2))
theorem at_of {x : D} {L : List Str} (hx : x.items? = some (L.map D.str)) {i : Nat} {w : Str} (h : L[i]? = some w) {k : Int} (hk : k = (i : Int)) : atD x (.int k) = some (.str w) := by
  have h' : (L.map D.str)[i]? = some (D.str w) := by rw [List.getElem?_map, h]; rfl
  cases x <;> simp [D.items?] at hx
  · subst hx; exact atL_of h' hk
  · subst hx; exact atT_of h' hk
/-- what a slice of a list or a tuple of texts has -/
theorem cut_to {x : D} {L : List Str} (hx : x.items? = some (L.map D.str)) (q : Nat) : ∃ y, cutD x none (some (q : Int)) = some y ∧ y.items? = some ((L.take q).map D.str) := by
  cases x <;> simp [D.items?] at hx
  · subst hx; exact ⟨_, ct_toL _ q, by rw [List.map_take]; rfl⟩
  · subst hx; exact ⟨_, ct_toT _ q, by rw [List.map_take]; rfl⟩
theorem cut_at {x : D} {L : List Str} (hx : x.items? = some (L.map D.str)) (q : Nat) : ∃ y, cutD x (some (q : Int)) none = some y ∧ y.items? = some ((L.drop q).map D.str) := by
  cases x <;> simp [D.items?] at hx
  · subst hx; exact ⟨_, ct_atL _ q, by rw [List.map_drop]; rfl⟩
  · subst hx; exact ⟨_, ct_atT _ q, by rw [List.map_drop]; rfl⟩
theorem chain_t {f g : D → D → Option D} {fa fb fc : Rho → R VD} {ρ : Rho} {x y z : D} {a b : Bool} (h1 : fa ρ = .ok (.d x) ρ) (h2 : fb ρ = .ok (.d y) ρ) (h3 : fc ρ = .ok (.d z) ρ) (e1 : f x y = some (.bl a)) (e2 : g y z = some (.bl b)) : valT (chainE f g fa fb fc) ρ = .ok (a && b) ρ := by
  cases a <;> cases b <;> simp [valT, chainE, h1, h2, h3, R.bind, lift2, res, e1, e2]
theorem exch_ok {x : D} {L : List Str} (hx : x.items? = some (L.map D.str)) {i : Nat} {a b : Str} (ha : L[i]? = some a) (hb : L[i + 1]? = some b) (hl : L.length ≤ 1000) : f_list_exchanged [x, .int ((i + 1 : Nat) : Int)] = .ok (sT (swp L i a b)) := by
  have hi := (List.getElem?_eq_some_iff.1 hb).1
  obtain ⟨y1, c1, i1⟩ := cut_to hx i
  obtain ⟨y2, c2, i2⟩ := cut_at hx (i + 2)
  have l1 := len_of hx
  have a1 := at_of hx hb (k := ((i + 1 : Nat) : Int)) rfl
  have a2 := at_of hx ha (k := (i : Nat)) rfl
  have s1 := sub_nat i
  have s2 := add_nat (i + 1)
  have ct : valT (chainE leD ltD (constE (.int 1)) (nameE 1) (opNE lenD (consA (nameE 0) nilA))) [.d x, .d (.int ((i + 1 : Nat) : Int))] = .ok (decide ((1 : Int) ≤ ((i + 1 : Nat) : Int)) && decide (((i + 1 : Nat) : Int) < (L.length : Int))) [.d x, .d (.int ((i + 1 : Nat) : Int))] := by
    refine chain_t (x := .int 1) (y := .int ((i + 1 : Nat) : Int)) (z := .int (L.length : Nat)) rfl rfl ?_ rfl rfl
    array_get_dec
  rw [decide_eq_true (show (1 : Int) ≤ ((i + 1 : Nat) : Int) by omega), decide_eq_true (show ((i + 1 : Nat) : Int) < (L.length : Int) by omega)] at ct
  have et : datAll ((L.take i).map D.str |>.map VD.d |> fun l => l ++ (VD.d (.str b) :: VD.d (.str a) :: ((L.drop (i + 2)).map D.str |>.map VD.d |> fun l => l ++ []))) = some ((swp L i a b).map D.str) := by
    show datAll (((L.take i).map D.str).map VD.d ++ (VD.d (.str b) :: VD.d (.str a) :: (((L.drop (i + 2)).map D.str).map VD.d ++ []))) = _
    rw [datAll_dsA _ _ (.str b :: .str a :: (L.drop (i + 2)).map D.str) (datAll_cons (datAll_cons (by rw [List.append_nil]; exact datAll_ds _)))]
    unfold swp
    rw [List.map_append]; rfl
  have hlen : ((swp L i a b).map D.str).length ≤ 1000000 := by unfold swp; simp; omega
  refine ev_runF [.d x, .d (.int ((i + 1 : Nat) : Int))] ⟨[.d x, .d (.int ((i + 1 : Nat) : Int))], ?_⟩
  unfold m_list_exchanged
  refine ev_seqN (ρ1 := [.d x, .d (.int ((i + 1 : Nat) : Int))]) (ev_ifS2 (ev_notT ct) rfl ev_next) rfl (ev_ret (ev_tup (ds := (swp L i a b).map D.str) (vs := ((L.take i).map D.str).map VD.d ++ (VD.d (.str b) :: VD.d (.str a) :: (((L.drop (i + 2)).map D.str).map VD.d ++ []))) ?_ et hlen))
  have q1 : slE (nameE 0) noPart (aPart (op2E subD (nameE 1) (constE (.int 1)))) [.d x, .d (.int ((i + 1 : Nat) : Int))] = .ok (.d y1) [.d x, .d (.int ((i + 1 : Nat) : Int))] := by array_get_dec
  have q2 : op2E atD (nameE 0) (nameE 1) [.d x, .d (.int ((i + 1 : Nat) : Int))] = .ok (.d (.str b)) [.d x, .d (.int ((i + 1 : Nat) : Int))] := by array_get_dec
  have q3 : op2E atD (nameE 0) (op2E subD (nameE 1) (constE (.int 1))) [.d x, .d (.int ((i + 1 : Nat) : Int))] = .ok (.d (.str a)) [.d x, .d (.int ((i + 1 : Nat) : Int))] := by array_get_dec
  have q4 : slE (nameE 0) (aPart (op2E addD (nameE 1) (constE (.int 1)))) noPart [.d x, .d (.int ((i + 1 : Nat) : Int))] = .ok (.d y2) [.d x, .d (.int ((i + 1 : Nat) : Int))] := by array_get_dec
  exact ev_starA q1 rfl i1 (ev_consA q2 (ev_consA q3 (ev_starA q4 rfl i2 ev_nilA)))
theorem exch_err {x : D} {L : List Str} (hx : x.items? = some (L.map D.str)) {k : Nat} (hk : k = 0 ∨ L.length ≤ k) : f_list_exchanged [x, .int (k : Nat)] = .err ⟨4, [.int (k : Nat)]⟩ := by
  have l1 := len_of hx
  have ct : valT (chainE leD ltD (constE (.int 1)) (nameE 1) (opNE lenD (consA (nameE 0) nilA))) [.d x, .d (.int (k : Nat))] = .ok (decide ((1 : Int) ≤ (k : Int)) && decide ((k : Int) < (L.length : Int))) [.d x, .d (.int (k : Nat))] := by
    refine chain_t (x := .int 1) (y := .int (k : Nat)) (z := .int (L.length : Nat)) rfl rfl ?_ rfl rfl
    array_get_dec
  have hf : (decide ((1 : Int) ≤ (k : Int)) && decide ((k : Int) < (L.length : Int))) = false := by
    rcases hk with rfl | hk
    · rfl
    · rw [decide_eq_false (show ¬ (k : Int) < (L.length : Int) by omega), Bool.and_false]
  rw [hf] at ct
  refine ev_runFx [.d x, .d (.int (k : Nat))] ⟨[.d x, .d (.int (k : Nat))], ?_⟩
  unfold m_list_exchanged
  exact ev_seqX (ev_ifS1 (ev_notT ct) rfl (ev_raise rfl))
def putS (L : List Str) (i : Nat) (s : Str) : List Str := L.take i ++ (s :: L.drop i)
theorem put_ct {x : D} {L : List Str} (hx : x.items? = some (L.map D.str)) (k : Nat) (s : D) : valT (chainE leD leD (constE (.int 1)) (nameE 1) (op2E addD (opNE lenD (consA (nameE 0) nilA)) (constE (.int 1)))) [.d x, .d (.int (k : Nat)), .d s] = .ok (decide ((1 : Int) ≤ (k : Int)) && decide ((k : Int) ≤ ((L.length + 1 : Nat) : Int))) [.d x, .d (.int (k : Nat)), .d s] := by
  have l1 := len_of hx
  have s1 := add_nat L.length
  refine chain_t (x := .int 1) (y := .int (k : Nat)) (z := .int ((L.length + 1 : Nat) : Int)) rfl rfl ?_ rfl rfl
  array_get_dec
theorem put_err {x : D} {L : List Str} (hx : x.items? = some (L.map D.str)) {k : Nat} {s : D} (hk : k = 0 ∨ L.length + 1 < k) : f_thing_put [x, .int (k : Nat), s] = .err ⟨4, [.int (k : Nat)]⟩ := by
  have ct := put_ct hx k s
  have hf : (decide ((1 : Int) ≤ (k : Int)) && decide ((k : Int) ≤ ((L.length + 1 : Nat) : Int))) = false := by
    rcases hk with rfl | hk
    · rfl
    · rw [decide_eq_false (show ¬ (k : Int) ≤ ((L.length + 1 : Nat) : Int) by omega), Bool.and_false]
  rw [hf] at ct
  refine ev_runFx [.d x, .d (.int (k : Nat)), .d s] ⟨[.d x, .d (.int (k : Nat)), .d s], ?_⟩
  unfold m_thing_put
  exact ev_seqX (ev_ifS1 (ev_notT ct) rfl (ev_raise rfl))
theorem put_known {x : D} {L : List Str} (hx : x.items? = some (L.map D.str)) {i : Nat} {s : Str} (hi : i ≤ L.length) (hs : s ∈ L) : f_thing_put [x, .int ((i + 1 : Nat) : Int), .str s] = .err ⟨9, [.str s]⟩ := by
  have ct := put_ct hx (i + 1) (.str s)
  rw [decide_eq_true (show (1 : Int) ≤ ((i + 1 : Nat) : Int) by omega), decide_eq_true (show ((i + 1 : Nat) : Int) ≤ ((L.length + 1 : Nat) : Int) by omega)] at ct
  have h1 := in_strs hx s
  rw [decide_eq_true hs] at h1
  refine ev_runFx [.d x, .d (.int ((i + 1 : Nat) : Int)), .d (.str s)] ⟨[.d x, .d (.int ((i + 1 : Nat) : Int)), .d (.str s)], ?_⟩
  unfold m_thing_put
  refine ev_seqN (ρ1 := [.d x, .d (.int ((i + 1 : Nat) : Int)), .d (.str s)]) (ev_ifS2 (ev_notT ct) rfl ev_next) rfl (ev_seqX (ev_ifS1 (b := true) (ρ1 := [.d x, .d (.int ((i + 1 : Nat) : Int)), .d (.str s)]) ?_ rfl (ev_raise rfl)))
  array_get_dec
theorem put_ok {x : D} {L : List Str} (hx : x.items? = some (L.map D.str)) {i : Nat} {s : Str} (hi : i ≤ L.length) (hs : s ∉ L) (hl : L.length ≤ 1000) : f_thing_put [x, .int ((i + 1 : Nat) : Int), .str s] = .ok (sT (putS L i s)) := by
  have ct := put_ct hx (i + 1) (.str s)
  rw [decide_eq_true (show (1 : Int) ≤ ((i + 1 : Nat) : Int) by omega), decide_eq_true (show ((i + 1 : Nat) : Int) ≤ ((L.length + 1 : Nat) : Int) by omega)] at ct
  have h1 := in_strs hx s
  rw [decide_eq_false hs] at h1
  obtain ⟨y1, c1, i1⟩ := cut_to hx i
  obtain ⟨y2, c2, i2⟩ := cut_at hx i
  have s1 := sub_nat i
  have et : datAll (((L.take i).map D.str).map VD.d ++ (VD.d (.str s) :: (((L.drop i).map D.str).map VD.d ++ []))) = some ((putS L i s).map D.str) := by
    rw [datAll_dsA _ _ (.str s :: (L.drop i).map D.str) (datAll_cons (by rw [List.append_nil]; exact datAll_ds _))]
    unfold putS
    rw [List.map_append]; rfl
  have hlen : ((putS L i s).map D.str).length ≤ 1000000 := by unfold putS; simp; omega
  refine ev_runF [.d x, .d (.int ((i + 1 : Nat) : Int)), .d (.str s)] ⟨[.d x, .d (.int ((i + 1 : Nat) : Int)), .d (.str s)], ?_⟩
  unfold m_thing_put
  refine ev_seqN (ρ1 := [.d x, .d (.int ((i + 1 : Nat) : Int)), .d (.str s)]) (ev_ifS2 (ev_notT ct) rfl ev_next) rfl (ev_seqN (ρ1 := [.d x, .d (.int ((i + 1 : Nat) : Int)), .d (.str s)]) (ev_ifS2 (b := false) (ρ1 := [.d x, .d (.int ((i + 1 : Nat) : Int)), .d (.str s)]) ?_ rfl ev_next) rfl (ev_ret (ev_tup (ds := (putS L i s).map D.str) (vs := ((L.take i).map D.str).map VD.d ++ (VD.d (.str s) :: (((L.drop i).map D.str).map VD.d ++ []))) ?_ et hlen)))
  · array_get_dec
  · have q1 : slE (nameE 0) noPart (aPart (op2E subD (nameE 1) (constE (.int 1)))) [.d x, .d (.int ((i + 1 : Nat) : Int)), .d (.str s)] = .ok (.d y1) [.d x, .d (.int ((i + 1 : Nat) : Int)), .d (.str s)] := by array_get_dec
    have q4 : slE (nameE 0) (aPart (op2E subD (nameE 1) (constE (.int 1)))) noPart [.d x, .d (.int ((i + 1 : Nat) : Int)), .d (.str s)] = .ok (.d y2) [.d x, .d (.int ((i + 1 : Nat) : Int)), .d (.str s)] := by array_get_dec
    exact ev_starA q1 rfl i1 (ev_consA rfl (ev_starA q4 rfl i2 ev_nilA))
theorem items_seq {x : D} {l : List D} (h : x.items? = some l) : itemsOf x = some l := by cases x <;> simp [D.items?] at h <;> (subst h; rfl)
theorem left_ok {x : D} {L : List Str} (hx : x.items? = some (L.map D.str)) {s : Str} (hs : s ∈ L) (hl : L.length ≤ 1000) : f_thing_left_out [x, .str s] = .ok (sT (L.filter fun w => !decide (w = s))) := by
  have h1 := nin_strs hx s
  rw [decide_eq_true hs] at h1
  have ec : m_thing_left_out_c1 [.d x, .d (.str s), .no] = .ok ((L.filter fun w => !decide (w = s)).map D.str) [.d x, .d (.str s), .no] := by
    refine comp_t (vs := [2]) (ρ0 := [.d x, .d (.str s), .no]) (l := L) (e := D.str) (p := fun w => !decide (w = s)) (g := D.str) (ev_seqI rfl (items_seq hx)) rfl (by omega) (fun w _ => ⟨[.d x, .d (.str s), .d (.str w)], rfl, ?_, fun _ => rfl, rfl⟩)
    unfold m_thing_left_out_t1
    have := dv_neS w s
    array_get_dec
  refine ev_runF [.d x, .d (.str s), .no] ?_
  apply Exists.intro
  unfold m_thing_left_out
  have tt : tupleTD [.lst ((L.filter fun w => !decide (w = s)).map D.str)] = some (sT (L.filter fun w => !decide (w = s))) := rfl
  array_mem_dec
theorem left_err {x : D} {L : List Str} (hx : x.items? = some (L.map D.str)) {s : Str} (hs : s ∉ L) : f_thing_left_out [x, .str s] = .err ⟨3, [.str s]⟩ := by
  have h1 := nin_strs hx s
  rw [decide_eq_false hs] at h1
  change ninD (.str s) x = some (.bl true) at h1
  refine ev_runFx [.d x, .d (.str s), .no] ⟨[.d x, .d (.str s), .no], ?_⟩
  unfold m_thing_left_out
  refine ev_seqX (ev_ifS1 (b := true) (ρ1 := [.d x, .d (.str s), .no]) ?_ rfl (ev_raise rfl))
  array_get_dec
end Lw
namespace Lw
open PySem Lq
local macro_rules | `(tactic| sizeOf_list_dec) => `(tactic| first | omega | (simp only [List.length_append, List.length_map, List.length_cons, List.length_nil, List.length_take, List.length_drop, List.length_reverse, List.length_set, List.length_replicate, List.length_singleton, List.length_range]; omega) | (simp; omega))
local macro_rules | `(tactic| array_get_dec) => `(tactic| repeat' first
  | with_reducible assumption
  | (with_reducible exact ev_const) | (with_reducible exact ev_nilA) | (with_reducible exact ev_nilM) | (with_reducible exact ev_noPart) | (with_reducible exact ev_dfA) | (with_reducible exact ev_mk0)
  | ((with_reducible apply ev_name); (exact rfl)) | ((with_reducible apply ev_nameM); (exact rfl)) | ((with_reducible apply ev_nameB); (exact rfl))
  | (with_reducible apply ev_consA) | (with_reducible apply ev_op2) | (with_reducible apply ev_op1) | (with_reducible apply ev_opN) | (with_reducible apply ev_call) | (with_reducible apply ev_val) | (with_reducible apply ev_notT)
  | ((with_reducible apply ev_and1); (focus ((array_get_dec; done))); (focus ((first | (with_reducible rfl) | (with_reducible assumption) | exact Bool.not_true | exact Bool.not_false | exact decide_eq_true (by first | (with_reducible assumption) | omega) | exact decide_eq_false (by first | (with_reducible assumption) | omega) | exact nd_t (by first | (with_reducible assumption) | omega) | exact nd_f (by first | (with_reducible assumption) | omega) | exact nb_t (by first | (with_reducible assumption) | omega) | exact nb_f (by first | (with_reducible assumption) | omega) | (simp only [decide_true, decide_false, Bool.not_true, Bool.not_false, Bool.true_and, Bool.and_true, Bool.false_and, Bool.and_false, Bool.or_true, Bool.true_or, Bool.or_false, Bool.false_or]; done))))) | ((with_reducible apply ev_and2); (focus ((array_get_dec; done))); (focus ((first | (with_reducible rfl) | (with_reducible assumption) | exact Bool.not_true | exact Bool.not_false | exact decide_eq_true (by first | (with_reducible assumption) | omega) | exact decide_eq_false (by first | (with_reducible assumption) | omega) | exact nd_t (by first | (with_reducible assumption) | omega) | exact nd_f (by first | (with_reducible assumption) | omega) | exact nb_t (by first | (with_reducible assumption) | omega) | exact nb_f (by first | (with_reducible assumption) | omega) | (simp only [decide_true, decide_false, Bool.not_true, Bool.not_false, Bool.true_and, Bool.and_true, Bool.false_and, Bool.and_false, Bool.or_true, Bool.true_or, Bool.or_false, Bool.false_or]; done))))) | ((with_reducible apply ev_or1); (focus ((array_get_dec; done))); (focus ((first | (with_reducible rfl) | (with_reducible assumption) | exact Bool.not_true | exact Bool.not_false | exact decide_eq_true (by first | (with_reducible assumption) | omega) | exact decide_eq_false (by first | (with_reducible assumption) | omega) | exact nd_t (by first | (with_reducible assumption) | omega) | exact nd_f (by first | (with_reducible assumption) | omega) | exact nb_t (by first | (with_reducible assumption) | omega) | exact nb_f (by first | (with_reducible assumption) | omega) | (simp only [decide_true, decide_false, Bool.not_true, Bool.not_false, Bool.true_and, Bool.and_true, Bool.false_and, Bool.and_false, Bool.or_true, Bool.true_or, Bool.or_false, Bool.false_or]; done))))) | ((with_reducible apply ev_or2); (focus ((array_get_dec; done))); (focus ((first | (with_reducible rfl) | (with_reducible assumption) | exact Bool.not_true | exact Bool.not_false | exact decide_eq_true (by first | (with_reducible assumption) | omega) | exact decide_eq_false (by first | (with_reducible assumption) | omega) | exact nd_t (by first | (with_reducible assumption) | omega) | exact nd_f (by first | (with_reducible assumption) | omega) | exact nb_t (by first | (with_reducible assumption) | omega) | exact nb_f (by first | (with_reducible assumption) | omega) | (simp only [decide_true, decide_false, Bool.not_true, Bool.not_false, Bool.true_and, Bool.and_true, Bool.false_and, Bool.and_false, Bool.or_true, Bool.true_or, Bool.or_false, Bool.false_or]; done))))) | ((with_reducible apply ev_ifE1); (focus ((array_get_dec; done))); (focus ((first | (with_reducible rfl) | (with_reducible assumption) | exact Bool.not_true | exact Bool.not_false | exact decide_eq_true (by first | (with_reducible assumption) | omega) | exact decide_eq_false (by first | (with_reducible assumption) | omega) | exact nd_t (by first | (with_reducible assumption) | omega) | exact nd_f (by first | (with_reducible assumption) | omega) | exact nb_t (by first | (with_reducible assumption) | omega) | exact nb_f (by first | (with_reducible assumption) | omega) | (simp only [decide_true, decide_false, Bool.not_true, Bool.not_false, Bool.true_and, Bool.and_true, Bool.false_and, Bool.and_false, Bool.or_true, Bool.true_or, Bool.or_false, Bool.false_or]; done))))) | ((with_reducible apply ev_ifE2); (focus ((array_get_dec; done))); (focus ((first | (with_reducible rfl) | (with_reducible assumption) | exact Bool.not_true | exact Bool.not_false | exact decide_eq_true (by first | (with_reducible assumption) | omega) | exact decide_eq_false (by first | (with_reducible assumption) | omega) | exact nd_t (by first | (with_reducible assumption) | omega) | exact nd_f (by first | (with_reducible assumption) | omega) | exact nb_t (by first | (with_reducible assumption) | omega) | exact nb_f (by first | (with_reducible assumption) | omega) | (simp only [decide_true, decide_false, Bool.not_true, Bool.not_false, Bool.true_and, Bool.and_true, Bool.false_and, Bool.and_false, Bool.or_true, Bool.true_or, Bool.or_false, Bool.false_or]; done))))) | ((with_reducible apply ev_ifF1); (focus ((array_get_dec; done))); (focus ((first | (with_reducible rfl) | (with_reducible assumption) | exact Bool.not_true | exact Bool.not_false | exact decide_eq_true (by first | (with_reducible assumption) | omega) | exact decide_eq_false (by first | (with_reducible assumption) | omega) | exact nd_t (by first | (with_reducible assumption) | omega) | exact nd_f (by first | (with_reducible assumption) | omega) | exact nb_t (by first | (with_reducible assumption) | omega) | exact nb_f (by first | (with_reducible assumption) | omega) | (simp only [decide_true, decide_false, Bool.not_true, Bool.not_false, Bool.true_and, Bool.and_true, Bool.false_and, Bool.and_false, Bool.or_true, Bool.true_or, Bool.or_false, Bool.false_or]; done))))) | ((with_reducible apply ev_ifF2); (focus ((array_get_dec; done))); (focus ((first | (with_reducible rfl) | (with_reducible assumption) | exact Bool.not_true | exact Bool.not_false | exact decide_eq_true (by first | (with_reducible assumption) | omega) | exact decide_eq_false (by first | (with_reducible assumption) | omega) | exact nd_t (by first | (with_reducible assumption) | omega) | exact nd_f (by first | (with_reducible assumption) | omega) | exact nb_t (by first | (with_reducible assumption) | omega) | exact nb_f (by first | (with_reducible assumption) | omega) | (simp only [decide_true, decide_false, Bool.not_true, Bool.not_false, Bool.true_and, Bool.and_true, Bool.false_and, Bool.and_false, Bool.or_true, Bool.true_or, Bool.or_false, Bool.false_or]; done)))))
  | (with_reducible apply ev_and) | (with_reducible apply ev_or) | (with_reducible apply ev_frz) | (with_reducible apply ev_tup) | (with_reducible apply ev_lst) | (with_reducible apply ev_opNF) | (with_reducible apply ev_op2F) | (with_reducible apply ev_callB) | (with_reducible apply ev_starA) | (with_reducible apply ev_permA) | (with_reducible apply ev_app) | (with_reducible apply ev_ext) | (with_reducible apply ev_pop) | (with_reducible apply ev_rem) | (with_reducible apply ev_aPart) | (with_reducible apply ev_sl) | (with_reducible apply ev_ixT) | (with_reducible apply ev_andE) | (with_reducible apply ev_orE) | (with_reducible apply ev_notE) | (with_reducible apply ev_ifE) | (with_reducible apply ev_consMd) | (with_reducible apply ev_consMf) | (with_reducible apply ev_rng1) | (with_reducible apply ev_seqI) | (with_reducible apply ev_lrg1) | (with_reducible apply ev_lrg2) | (with_reducible apply ev_mk)
  | (with_reducible apply dv_addL) | (with_reducible apply dv_addT) | (with_reducible apply dv_cat)
  | (with_reducible exact dv_eqI _ _) | (with_reducible exact dv_neI _ _) | (with_reducible exact dv_eqS _ _) | (with_reducible exact dv_neS _ _)
  | ((with_reducible show eqD _ _ = some _); exact dv_eqS _ _) | ((with_reducible show neD _ _ = some _); exact dv_neS _ _)
  | (with_reducible exact datAll_dsA _ _ _ (by rfl)) | (with_reducible exact datAll_ds _)
  | ((with_reducible show _ ≤ _); sizeOf_list_dec) | ((with_reducible show _ < _); sizeOf_list_dec)
  | ((with_reducible show (_ : Rho) = _); first | (dsimp only [List.set]; done) | exact rfl)
  | ((with_reducible show (_ : Nat) = _); exact rfl)
  | exact (rfl : _ = some _) | exact (rfl : _ = true) | exact (rfl : _ = false)
  | (intro _))
local macro_rules | `(tactic| array_mem_dec) => `(tactic| repeat' first
  | with_reducible assumption
  | (with_reducible exact ev_next) | (with_reducible exact ev_raise0)
  | ((with_reducible apply ev_seqN); (focus (first | ((with_reducible apply ev_asg); (array_get_dec; done)) | ((with_reducible apply ev_asgM); (array_get_dec; done)) | ((with_reducible apply ev_par); (array_get_dec; done)) | ((with_reducible apply ev_drop); (array_get_dec; done)) | ((with_reducible apply ev_aug); (array_get_dec; done)) | ((with_reducible apply ev_put); (array_get_dec; done)) | (with_reducible assumption) | ((with_reducible apply ev_ifS2); (focus ((array_get_dec; done))); (focus ((first | (with_reducible rfl) | (with_reducible assumption) | exact Bool.not_true | exact Bool.not_false | exact decide_eq_true (by first | (with_reducible assumption) | omega) | exact decide_eq_false (by first | (with_reducible assumption) | omega) | exact nd_t (by first | (with_reducible assumption) | omega) | exact nd_f (by first | (with_reducible assumption) | omega) | exact nb_t (by first | (with_reducible assumption) | omega) | exact nb_f (by first | (with_reducible assumption) | omega) | (simp only [decide_true, decide_false, Bool.not_true, Bool.not_false, Bool.true_and, Bool.and_true, Bool.false_and, Bool.and_false, Bool.or_true, Bool.true_or, Bool.or_false, Bool.false_or]; done)))); exact ev_next))); (focus (first | (dsimp only [List.set, setsR]; done) | exact rfl)))
  | ((with_reducible apply ev_seqR); (focus ((with_reducible apply ev_ifS1); (focus ((array_get_dec; done))); (focus ((first | (with_reducible rfl) | (with_reducible assumption) | exact Bool.not_true | exact Bool.not_false | exact decide_eq_true (by first | (with_reducible assumption) | omega) | exact decide_eq_false (by first | (with_reducible assumption) | omega) | exact nd_t (by first | (with_reducible assumption) | omega) | exact nd_f (by first | (with_reducible assumption) | omega) | exact nb_t (by first | (with_reducible assumption) | omega) | exact nb_f (by first | (with_reducible assumption) | omega) | (simp only [decide_true, decide_false, Bool.not_true, Bool.not_false, Bool.true_and, Bool.and_true, Bool.false_and, Bool.and_false, Bool.or_true, Bool.true_or, Bool.or_false, Bool.false_or]; done)))); ((with_reducible apply ev_ret); (array_get_dec; done)))))
  | ((with_reducible apply ev_seqX); (focus ((with_reducible apply ev_ifS1); (focus ((array_get_dec; done))); (focus ((first | (with_reducible rfl) | (with_reducible assumption) | exact Bool.not_true | exact Bool.not_false | exact decide_eq_true (by first | (with_reducible assumption) | omega) | exact decide_eq_false (by first | (with_reducible assumption) | omega) | exact nd_t (by first | (with_reducible assumption) | omega) | exact nd_f (by first | (with_reducible assumption) | omega) | exact nb_t (by first | (with_reducible assumption) | omega) | exact nb_f (by first | (with_reducible assumption) | omega) | (simp only [decide_true, decide_false, Bool.not_true, Bool.not_false, Bool.true_and, Bool.and_true, Bool.false_and, Bool.and_false, Bool.or_true, Bool.true_or, Bool.or_false, Bool.false_or]; done)))); (first | exact ev_raise0 | ((with_reducible apply ev_raise); (array_get_dec; done))))))
  | ((with_reducible apply ev_seqN); (focus ((with_reducible apply ev_ifS1); (focus ((array_get_dec; done))); (focus ((first | (with_reducible rfl) | (with_reducible assumption) | exact Bool.not_true | exact Bool.not_false | exact decide_eq_true (by first | (with_reducible assumption) | omega) | exact decide_eq_false (by first | (with_reducible assumption) | omega) | exact nd_t (by first | (with_reducible assumption) | omega) | exact nd_f (by first | (with_reducible assumption) | omega) | exact nb_t (by first | (with_reducible assumption) | omega) | exact nb_f (by first | (with_reducible assumption) | omega) | (simp only [decide_true, decide_false, Bool.not_true, Bool.not_false, Bool.true_and, Bool.and_true, Bool.false_and, Bool.and_false, Bool.or_true, Bool.true_or, Bool.or_false, Bool.false_or]; done)))); (array_mem_dec; done))); (focus (first | (dsimp only [List.set, setsR]; done) | exact rfl)))
  | ((with_reducible apply ev_ifS1); (focus ((array_get_dec; done))); (focus ((first | (with_reducible rfl) | (with_reducible assumption) | exact Bool.not_true | exact Bool.not_false | exact decide_eq_true (by first | (with_reducible assumption) | omega) | exact decide_eq_false (by first | (with_reducible assumption) | omega) | exact nd_t (by first | (with_reducible assumption) | omega) | exact nd_f (by first | (with_reducible assumption) | omega) | exact nb_t (by first | (with_reducible assumption) | omega) | exact nb_f (by first | (with_reducible assumption) | omega) | (simp only [decide_true, decide_false, Bool.not_true, Bool.not_false, Bool.true_and, Bool.and_true, Bool.false_and, Bool.and_false, Bool.or_true, Bool.true_or, Bool.or_false, Bool.false_or]; done))))) | ((with_reducible apply ev_ifS2); (focus ((array_get_dec; done))); (focus ((first | (with_reducible rfl) | (with_reducible assumption) | exact Bool.not_true | exact Bool.not_false | exact decide_eq_true (by first | (with_reducible assumption) | omega) | exact decide_eq_false (by first | (with_reducible assumption) | omega) | exact nd_t (by first | (with_reducible assumption) | omega) | exact nd_f (by first | (with_reducible assumption) | omega) | exact nb_t (by first | (with_reducible assumption) | omega) | exact nb_f (by first | (with_reducible assumption) | omega) | (simp only [decide_true, decide_false, Bool.not_true, Bool.not_false, Bool.true_and, Bool.and_true, Bool.false_and, Bool.and_false, Bool.or_true, Bool.true_or, Bool.or_false, Bool.false_or]; done)))))
  | ((with_reducible apply ev_ret); (array_get_dec; done)) | ((with_reducible apply ev_retF); (array_get_dec; done)) | ((with_reducible apply ev_asg); (array_get_dec; done)) | ((with_reducible apply ev_asgM); (array_get_dec; done)) | ((with_reducible apply ev_par); (array_get_dec; done)) | ((with_reducible apply ev_drop); (array_get_dec; done)) | ((with_reducible apply ev_aug); (array_get_dec; done)) | ((with_reducible apply ev_put); (array_get_dec; done)) | ((with_reducible apply ev_raise); (array_get_dec; done)))
/-! ### what is heard, what is due -/
def farD (k : Nat) : D := .lst [.str "far", .int (k : Nat), .bl true]
def val0 (L : List Str) : Nat → D
  | 0 => farD 0
  | i + 1 => match L[i]?, L[i + 1]? with
    | some a, some b => sT (swp L i a b)
    | _, _ => farD (i + 1)
def val1 (L : List Str) (s : Str) : Nat → D
  | 0 => farD 0
  | i + 1 => if L.length < i then farD (i + 1) else if s ∈ L then .lst [.str "known", .str s, .bl true] else sT (putS L i s)
def val2 (L : List Str) (s : Str) : D := if s ∈ L then sT (L.filter fun w => !decide (w = s)) else .lst [.str "none", .str s, .bl true]
section
variable {x : D} {k : Nat} {s : Str} {v : D} {n : Int}
abbrev hρ (n : Int) (x : D) (k : Nat) (s : Str) : Rho := [.d (.int n), .d x, .d (.int (k : Nat)), .d (.str s), .d .non, .d .non, .no]
abbrev hBody : Rho → O := (ifS (valT (op2E eqD (nameE 0) (constE (.int 0)))) (asgS 4 (callE f_list_exchanged (consA (nameE 1) (consA (nameE 2) nilA)))) (asgS 4 (ifE (valT (op2E eqD (nameE 0) (constE (.int 1)))) (callE f_thing_put (consA (nameE 1) (consA (nameE 2) (consA (nameE 3) nilA)))) (callE f_thing_left_out (consA (nameE 1) (consA (nameE 3) nilA))))))
theorem heard_val (h : hBody (hρ n x k s) = .nx ((hρ n x k s).set 4 (.d v))) : f_law_heard [.int n, x, .int (k : Nat), .str s] = .ok v := by
  refine ev_runF [.d (.int n), .d x, .d (.int (k : Nat)), .d (.str s), .no, .no, .no] ⟨(hρ n x k s).set 4 (.d v), ?_⟩
  unfold m_law_heard
  exact ev_seqN (ρ1 := hρ n x k s) rfl rfl (ev_seqN (ev_try h) rfl (ev_seqR (ev_ifS1 (b := true) (ρ1 := (hρ n x k s).set 4 (.d v)) rfl rfl (ev_ret (ev_name rfl)))))
theorem heard_far (h : hBody (hρ n x k s) = .err ⟨4, [.int (k : Nat)]⟩ (hρ n x k s)) : f_law_heard [.int n, x, .int (k : Nat), .str s] = .ok (farD k) := by
  refine ev_runF [.d (.int n), .d x, .d (.int (k : Nat)), .d (.str s), .no, .no, .no] ⟨(hρ n x k s).set 5 (.d (.obj 4 [.int (k : Nat)])), ?_⟩
  unfold m_law_heard
  exact ev_seqN (ρ1 := hρ n x k s) rfl rfl (ev_seqN (ρ1 := (hρ n x k s).set 5 (.d (.obj 4 [.int (k : Nat)]))) (ev_tryX h rfl) rfl rfl)
theorem heard_known (h : hBody (hρ n x k s) = .err ⟨9, [.str s]⟩ (hρ n x k s)) : f_law_heard [.int n, x, .int (k : Nat), .str s] = .ok (.lst [.str "known", .str s, .bl true]) := by
  refine ev_runF [.d (.int n), .d x, .d (.int (k : Nat)), .d (.str s), .no, .no, .no] ⟨(hρ n x k s).set 5 (.d (.obj 9 [.str s])), ?_⟩
  unfold m_law_heard
  exact ev_seqN (ρ1 := hρ n x k s) rfl rfl (ev_seqN (ρ1 := (hρ n x k s).set 5 (.d (.obj 9 [.str s]))) (ev_tryX h rfl) rfl rfl)
theorem heard_none (h : hBody (hρ n x k s) = .err ⟨3, [.str s]⟩ (hρ n x k s)) : f_law_heard [.int n, x, .int (k : Nat), .str s] = .ok (.lst [.str "none", .str s, .bl true]) := by
  refine ev_runF [.d (.int n), .d x, .d (.int (k : Nat)), .d (.str s), .no, .no, .no] ⟨(hρ n x k s).set 5 (.d (.obj 3 [.str s])), ?_⟩
  unfold m_law_heard
  exact ev_seqN (ρ1 := hρ n x k s) rfl rfl (ev_seqN (ρ1 := (hρ n x k s).set 5 (.d (.obj 3 [.str s]))) (ev_tryX h rfl) rfl rfl)
theorem body0 (h : f_list_exchanged [x, .int (k : Nat)] = .ok v) : hBody (hρ 0 x k s) = .nx ((hρ 0 x k s).set 4 (.d v)) :=
  ev_ifS1 (b := true) (ρ1 := hρ 0 x k s) rfl rfl (ev_asg (ev_call (vs := [.d x, .d (.int (k : Nat))]) rfl rfl h rfl))
theorem body0x {e : Xn} (h : f_list_exchanged [x, .int (k : Nat)] = .err e) : hBody (hρ 0 x k s) = .err e (hρ 0 x k s) :=
  ev_ifS1 (b := true) (ρ1 := hρ 0 x k s) rfl rfl (ev_asgX (ev_callX (vs := [.d x, .d (.int (k : Nat))]) rfl rfl h rfl))
theorem body1 (h : f_thing_put [x, .int (k : Nat), .str s] = .ok v) : hBody (hρ 1 x k s) = .nx ((hρ 1 x k s).set 4 (.d v)) :=
  ev_ifS2 (b := false) (ρ1 := hρ 1 x k s) rfl rfl (ev_asg (ev_ifE1 (b := true) (ρ1 := hρ 1 x k s) rfl rfl (ev_call (vs := [.d x, .d (.int (k : Nat)), .d (.str s)]) rfl rfl h rfl)))
theorem ifE1_x {ft : Rho → R Bool} {fa fb : Rho → R VD} {ρ ρ1 ρ2 : Rho} {e : Xn} (h : ft ρ = .ok true ρ1) (h2 : fa ρ1 = .err e ρ2) : ifE ft fa fb ρ = .err e ρ2 := by simp [ifE, h, R.bind, h2]
theorem ifE2_x {ft : Rho → R Bool} {fa fb : Rho → R VD} {ρ ρ1 ρ2 : Rho} {e : Xn} (h : ft ρ = .ok false ρ1) (h2 : fb ρ1 = .err e ρ2) : ifE ft fa fb ρ = .err e ρ2 := by simp [ifE, h, R.bind, h2]
theorem body1x {e : Xn} (h : f_thing_put [x, .int (k : Nat), .str s] = .err e) : hBody (hρ 1 x k s) = .err e (hρ 1 x k s) :=
  ev_ifS2 (b := false) (ρ1 := hρ 1 x k s) rfl rfl (ev_asgX (ifE1_x (ρ1 := hρ 1 x k s) rfl (ev_callX (vs := [.d x, .d (.int (k : Nat)), .d (.str s)]) rfl rfl h rfl)))
theorem body2 (h : f_thing_left_out [x, .str s] = .ok v) : hBody (hρ 2 x k s) = .nx ((hρ 2 x k s).set 4 (.d v)) :=
  ev_ifS2 (b := false) (ρ1 := hρ 2 x k s) rfl rfl (ev_asg (ev_ifE2 (b := false) (ρ1 := hρ 2 x k s) rfl rfl (ev_call (vs := [.d x, .d (.str s)]) rfl rfl h rfl)))
theorem body2x {e : Xn} (h : f_thing_left_out [x, .str s] = .err e) : hBody (hρ 2 x k s) = .err e (hρ 2 x k s) :=
  ev_ifS2 (b := false) (ρ1 := hρ 2 x k s) rfl rfl (ev_asgX (ifE2_x (ρ1 := hρ 2 x k s) rfl (ev_callX (vs := [.d x, .d (.str s)]) rfl rfl h rfl)))
theorem heard0 {L : List Str} (hx : x.items? = some (L.map D.str)) (hl : L.length ≤ 1000) : f_law_heard [.int 0, x, .int (k : Nat), .str s] = .ok (val0 L k) := by
  cases k with
  | zero => exact heard_far (body0x (exch_err hx (.inl rfl)))
  | succ i =>
    cases hb : L[i + 1]? with
    | none =>
      have hi := List.getElem?_eq_none_iff.1 hb
      have e : val0 L (i + 1) = farD (i + 1) := by simp only [val0, hb]; split <;> simp_all
      rw [e]
      exact heard_far (body0x (exch_err hx (.inr hi)))
    | some b =>
      have hi := (List.getElem?_eq_some_iff.1 hb).1
      have ha : L[i]? = some L[i] := List.getElem?_eq_getElem (by omega)
      have e : val0 L (i + 1) = sT (swp L i L[i] b) := by simp only [val0, hb, ha]
      rw [e]
      exact heard_val (body0 (exch_ok hx ha hb hl))
theorem heard1 {L : List Str} (hx : x.items? = some (L.map D.str)) (hl : L.length ≤ 1000) : f_law_heard [.int 1, x, .int (k : Nat), .str s] = .ok (val1 L s k) := by
  cases k with
  | zero => exact heard_far (body1x (put_err hx (.inl rfl)))
  | succ i =>
    by_cases h1 : L.length < i
    · have e : val1 L s (i + 1) = farD (i + 1) := by simp only [val1, h1, if_true]
      rw [e]
      exact heard_far (body1x (put_err hx (.inr (by omega))))
    · by_cases h2 : s ∈ L
      · have e : val1 L s (i + 1) = .lst [.str "known", .str s, .bl true] := by simp only [val1, h1, h2, if_true, if_false]
        rw [e]
        exact heard_known (body1x (put_known hx (by omega) h2))
      · have e : val1 L s (i + 1) = sT (putS L i s) := by simp only [val1, h1, h2, if_false]
        rw [e]
        exact heard_val (body1 (put_ok hx (by omega) h2 hl))
theorem heard2 {L : List Str} (hx : x.items? = some (L.map D.str)) (hl : L.length ≤ 1000) : f_law_heard [.int 2, x, .int (k : Nat), .str s] = .ok (val2 L s) := by
  by_cases h2 : s ∈ L
  · have e : val2 L s = sT (L.filter fun w => !decide (w = s)) := by simp only [val2, h2, if_true]
    rw [e]
    exact heard_val (body2 (left_ok hx h2 hl))
  · have e : val2 L s = .lst [.str "none", .str s, .bl true] := by simp only [val2, h2, if_false]
    rw [e]
    exact heard_none (body2x (left_err hx h2))
end
theorem due0 {L : List Str} {k : Nat} {s : Str} (hl : L.length ≤ 1000) : f_law_due [.int 0, sT L, .int (k : Nat), .str s] = .ok (val0 L k) := by
  have l1 : lenD [.lst (L.map D.str)] = some (.int L.length) := len_of rfl
  have f1 : listF [sT L] = some (L.map D.str) := rfl
  refine ev_runF [.d (.int 0), .d (sT L), .d (.int (k : Nat)), .d (.str s), .no, .no] ?_
  have e0 : eqD (.int 0) (.int 0) = some (.bl true) := rfl
  have lt1 : ltD (.int (k : Nat)) (.int 1) = some (.bl (decide ((k : Int) < 1))) := rfl
  have ge1 : geD (.int (k : Nat)) (.int (L.length : Nat)) = some (.bl (decide ((k : Int) ≥ (L.length : Int)))) := rfl
  cases k with
  | zero =>
    clear lt1 ge1
    rw [show val0 L 0 = .lst [.str "far", .int ((0 : Nat) : Int), .bl true] from rfl]
    refine ⟨[.d (.int 0), .d (sT L), .d (.int ((0 : Nat) : Int)), .d (.str s), .d (.lst (L.map D.str)), .no], ?_⟩
    unfold m_law_due
    refine ev_seqN (ρ1 := [.d (.int 0), .d (sT L), .d (.int ((0 : Nat) : Int)), .d (.str s), .d (.lst (L.map D.str)), .no]) rfl rfl (ev_seqR (ev_ifS1 (b := true) (ρ1 := [.d (.int 0), .d (sT L), .d (.int ((0 : Nat) : Int)), .d (.str s), .d (.lst (L.map D.str)), .no]) rfl rfl ?_))
    have lt1' : ltD (.int ((0 : Nat) : Int)) (.int 1) = some (.bl true) := rfl
    array_mem_dec
  | succ i =>
    rw [decide_eq_false (by omega)] at lt1
    cases hb : L[i + 1]? with
    | none =>
      have hi := List.getElem?_eq_none_iff.1 hb
      have e : val0 L (i + 1) = .lst [.str "far", .int ((i + 1 : Nat) : Int), .bl true] := by simp only [val0, hb, farD]; split <;> simp_all
      rw [e]
      rw [decide_eq_true (by omega)] at ge1
      refine ⟨[.d (.int 0), .d (sT L), .d (.int ((i + 1 : Nat) : Int)), .d (.str s), .d (.lst (L.map D.str)), .no], ?_⟩
      unfold m_law_due
      refine ev_seqN (ρ1 := [.d (.int 0), .d (sT L), .d (.int ((i + 1 : Nat) : Int)), .d (.str s), .d (.lst (L.map D.str)), .no]) rfl rfl (ev_seqR (ev_ifS1 (b := true) (ρ1 := [.d (.int 0), .d (sT L), .d (.int ((i + 1 : Nat) : Int)), .d (.str s), .d (.lst (L.map D.str)), .no]) rfl rfl ?_))
      array_mem_dec
    | some b =>
      have hi := (List.getElem?_eq_some_iff.1 hb).1
      have ha : L[i]? = some L[i] := List.getElem?_eq_getElem (by omega)
      have e : val0 L (i + 1) = .tup ((swp L i L[i] b).map D.str) := by simp only [val0, hb, ha, sT]
      rw [e]
      rw [decide_eq_false (by omega)] at ge1
      have a1 := at_of (x := .lst (L.map D.str)) rfl hb (k := ((i + 1 : Nat) : Int)) rfl
      have a2 := at_of (x := .lst (L.map D.str)) rfl ha (k := (i : Nat)) rfl
      have s1 := sub_nat i
      have s2 := add_nat (i + 1)
      have c1 := ct_toL (L.map D.str) i
      have c2 := ct_atL (L.map D.str) (i + 1 + 1)
      have t1 : tupleTD [.lst ((L.map D.str).take i ++ [.str b, .str L[i]] ++ (L.map D.str).drop (i + 1 + 1))] = some (.tup ((swp L i L[i] b).map D.str)) := by
        show some (D.tup _) = _
        unfold swp
        rw [List.map_append, List.map_take, List.map_cons, List.map_cons, List.map_drop]
        simp
      refine ⟨[.d (.int 0), .d (sT L), .d (.int ((i + 1 : Nat) : Int)), .d (.str s), .d (.lst (L.map D.str)), .no], ?_⟩
      unfold m_law_due
      refine ev_seqN (ρ1 := [.d (.int 0), .d (sT L), .d (.int ((i + 1 : Nat) : Int)), .d (.str s), .d (.lst (L.map D.str)), .no]) rfl rfl (ev_seqR (ev_ifS1 (b := true) (ρ1 := [.d (.int 0), .d (sT L), .d (.int ((i + 1 : Nat) : Int)), .d (.str s), .d (.lst (L.map D.str)), .no]) rfl rfl ?_))
      array_mem_dec
theorem due1 {L : List Str} {k : Nat} {s : Str} (hl : L.length ≤ 1000) : f_law_due [.int 1, sT L, .int (k : Nat), .str s] = .ok (val1 L s k) := by
  have l1 : lenD [.lst (L.map D.str)] = some (.int L.length) := len_of rfl
  have f1 : listF [sT L] = some (L.map D.str) := rfl
  refine ev_runF [.d (.int 1), .d (sT L), .d (.int (k : Nat)), .d (.str s), .no, .no] ?_
  have e0 : eqD (.int 1) (.int 0) = some (.bl false) := rfl
  have e1 : eqD (.int 1) (.int 1) = some (.bl true) := rfl
  have lt1 : ltD (.int (k : Nat)) (.int 1) = some (.bl (decide ((k : Int) < 1))) := rfl
  have ad := add_nat L.length
  have ge1 : gtD (.int (k : Nat)) (.int ((L.length + 1 : Nat) : Int)) = some (.bl (decide ((k : Int) > ((L.length + 1 : Nat) : Int)))) := rfl
  have i1 := in_strs (x := .lst (L.map D.str)) (ws := L) rfl s
  cases k with
  | zero =>
    clear lt1 ge1
    rw [show val1 L s 0 = .lst [.str "far", .int ((0 : Nat) : Int), .bl true] from rfl]
    have lt1' : ltD (.int ((0 : Nat) : Int)) (.int 1) = some (.bl true) := rfl
    refine ⟨[.d (.int 1), .d (sT L), .d (.int ((0 : Nat) : Int)), .d (.str s), .d (.lst (L.map D.str)), .no], ?_⟩
    unfold m_law_due
    refine ev_seqN (ρ1 := [.d (.int 1), .d (sT L), .d (.int ((0 : Nat) : Int)), .d (.str s), .d (.lst (L.map D.str)), .no]) rfl rfl (ev_seqN (ρ1 := [.d (.int 1), .d (sT L), .d (.int ((0 : Nat) : Int)), .d (.str s), .d (.lst (L.map D.str)), .no]) (ev_ifS2 (b := false) (ρ1 := [.d (.int 1), .d (sT L), .d (.int ((0 : Nat) : Int)), .d (.str s), .d (.lst (L.map D.str)), .no]) rfl rfl ev_next) rfl (ev_seqR (ev_ifS1 (b := true) (ρ1 := [.d (.int 1), .d (sT L), .d (.int ((0 : Nat) : Int)), .d (.str s), .d (.lst (L.map D.str)), .no]) rfl rfl ?_)))
    array_mem_dec
  | succ i =>
    rw [decide_eq_false (by omega)] at lt1
    by_cases h1 : L.length < i
    · have e : val1 L s (i + 1) = .lst [.str "far", .int ((i + 1 : Nat) : Int), .bl true] := by simp only [val1, h1, if_true, farD]
      rw [e]
      rw [decide_eq_true (by omega)] at ge1
      refine ⟨[.d (.int 1), .d (sT L), .d (.int ((i + 1 : Nat) : Int)), .d (.str s), .d (.lst (L.map D.str)), .no], ?_⟩
      unfold m_law_due
      refine ev_seqN (ρ1 := [.d (.int 1), .d (sT L), .d (.int ((i + 1 : Nat) : Int)), .d (.str s), .d (.lst (L.map D.str)), .no]) rfl rfl (ev_seqN (ρ1 := [.d (.int 1), .d (sT L), .d (.int ((i + 1 : Nat) : Int)), .d (.str s), .d (.lst (L.map D.str)), .no]) (ev_ifS2 (b := false) (ρ1 := [.d (.int 1), .d (sT L), .d (.int ((i + 1 : Nat) : Int)), .d (.str s), .d (.lst (L.map D.str)), .no]) rfl rfl ev_next) rfl (ev_seqR (ev_ifS1 (b := true) (ρ1 := [.d (.int 1), .d (sT L), .d (.int ((i + 1 : Nat) : Int)), .d (.str s), .d (.lst (L.map D.str)), .no]) rfl rfl ?_)))
      array_mem_dec
    · rw [decide_eq_false (by omega)] at ge1
      by_cases h2 : s ∈ L
      · have e : val1 L s (i + 1) = .lst [.str "known", .str s, .bl true] := by simp only [val1, h1, h2, if_true, if_false]
        rw [e]
        rw [decide_eq_true h2] at i1
        refine ⟨[.d (.int 1), .d (sT L), .d (.int ((i + 1 : Nat) : Int)), .d (.str s), .d (.lst (L.map D.str)), .no], ?_⟩
        unfold m_law_due
        refine ev_seqN (ρ1 := [.d (.int 1), .d (sT L), .d (.int ((i + 1 : Nat) : Int)), .d (.str s), .d (.lst (L.map D.str)), .no]) rfl rfl (ev_seqN (ρ1 := [.d (.int 1), .d (sT L), .d (.int ((i + 1 : Nat) : Int)), .d (.str s), .d (.lst (L.map D.str)), .no]) (ev_ifS2 (b := false) (ρ1 := [.d (.int 1), .d (sT L), .d (.int ((i + 1 : Nat) : Int)), .d (.str s), .d (.lst (L.map D.str)), .no]) rfl rfl ev_next) rfl (ev_seqR (ev_ifS1 (b := true) (ρ1 := [.d (.int 1), .d (sT L), .d (.int ((i + 1 : Nat) : Int)), .d (.str s), .d (.lst (L.map D.str)), .no]) rfl rfl ?_)))
        array_mem_dec
      · have e : val1 L s (i + 1) = .tup ((putS L i s).map D.str) := by simp only [val1, h1, h2, if_false, sT]
        rw [e]
        rw [decide_eq_false h2] at i1
        have s1 := sub_nat i
        have c1 := ct_toL (L.map D.str) i
        have c2 := ct_atL (L.map D.str) i
        have t1 : tupleTD [.lst ((L.map D.str).take i ++ [.str s] ++ (L.map D.str).drop i)] = some (.tup ((putS L i s).map D.str)) := by
          show some (D.tup _) = _
          unfold putS
          rw [List.map_append, List.map_take, List.map_cons, List.map_drop]
          simp
        refine ⟨[.d (.int 1), .d (sT L), .d (.int ((i + 1 : Nat) : Int)), .d (.str s), .d (.lst (L.map D.str)), .no], ?_⟩
        unfold m_law_due
        refine ev_seqN (ρ1 := [.d (.int 1), .d (sT L), .d (.int ((i + 1 : Nat) : Int)), .d (.str s), .d (.lst (L.map D.str)), .no]) rfl rfl (ev_seqN (ρ1 := [.d (.int 1), .d (sT L), .d (.int ((i + 1 : Nat) : Int)), .d (.str s), .d (.lst (L.map D.str)), .no]) (ev_ifS2 (b := false) (ρ1 := [.d (.int 1), .d (sT L), .d (.int ((i + 1 : Nat) : Int)), .d (.str s), .d (.lst (L.map D.str)), .no]) rfl rfl ev_next) rfl (ev_seqR (ev_ifS1 (b := true) (ρ1 := [.d (.int 1), .d (sT L), .d (.int ((i + 1 : Nat) : Int)), .d (.str s), .d (.lst (L.map D.str)), .no]) rfl rfl ?_)))
        array_mem_dec
theorem due2 {L : List Str} {k : Nat} {s : Str} (hl : L.length ≤ 1000) : f_law_due [.int 2, sT L, .int (k : Nat), .str s] = .ok (val2 L s) := by
  have f1 : listF [sT L] = some (L.map D.str) := rfl
  have i1 := in_strs (x := .lst (L.map D.str)) (ws := L) rfl s
  have e0 : eqD (.int 2) (.int 0) = some (.bl false) := rfl
  have e1 : eqD (.int 2) (.int 1) = some (.bl false) := rfl
  have ec : m_law_due_c1 [.d (.int 2), .d (sT L), .d (.int (k : Nat)), .d (.str s), .d (.lst (L.map D.str)), .no] = .ok ((L.filter fun w => !decide (w = s)).map D.str) [.d (.int 2), .d (sT L), .d (.int (k : Nat)), .d (.str s), .d (.lst (L.map D.str)), .no] := by
    refine comp_t (vs := [5]) (ρ0 := [.d (.int 2), .d (sT L), .d (.int (k : Nat)), .d (.str s), .d (.lst (L.map D.str)), .no]) (l := L) (e := D.str) (p := fun w => !decide (w = s)) (g := D.str) (ev_seqI rfl rfl) rfl (by omega) (fun w _ => ⟨[.d (.int 2), .d (sT L), .d (.int (k : Nat)), .d (.str s), .d (.lst (L.map D.str)), .d (.str w)], rfl, ?_, fun _ => rfl, rfl⟩)
    unfold m_law_due_t1
    have := dv_neS w s
    array_get_dec
  have tt : tupleTD [.lst ((L.filter fun w => !decide (w = s)).map D.str)] = some (.tup ((L.filter fun w => !decide (w = s)).map D.str)) := rfl
  refine ev_runF [.d (.int 2), .d (sT L), .d (.int (k : Nat)), .d (.str s), .no, .no] ?_
  by_cases h2 : s ∈ L
  · have e : val2 L s = .tup ((L.filter fun w => !decide (w = s)).map D.str) := by simp only [val2, h2, if_true, sT]
    rw [e]
    rw [decide_eq_true h2] at i1
    apply Exists.intro
    unfold m_law_due
    array_mem_dec
  · have e : val2 L s = .lst [.str "none", .str s, .bl true] := by simp only [val2, h2, if_false]
    rw [e]
    rw [decide_eq_false h2] at i1
    apply Exists.intro
    unfold m_law_due
    array_mem_dec
end Lw
namespace Lw
open PySem Lq
local macro_rules | `(tactic| sizeOf_list_dec) => `(tactic| first | omega | (simp only [List.length_append, List.length_map, List.length_cons, List.length_nil, List.length_take, List.length_drop, List.length_reverse, List.length_set, List.length_replicate, List.length_singleton, List.length_range]; omega) | (simp; omega))
local macro_rules | `(tactic| array_get_dec) => `(tactic| repeat' first
  | with_reducible assumption
  | (with_reducible exact ev_const) | (with_reducible exact ev_nilA) | (with_reducible exact ev_nilM) | (with_reducible exact ev_noPart) | (with_reducible exact ev_dfA) | (with_reducible exact ev_mk0)
  | ((with_reducible apply ev_name); (exact rfl)) | ((with_reducible apply ev_nameM); (exact rfl)) | ((with_reducible apply ev_nameB); (exact rfl))
  | (with_reducible apply ev_consA) | (with_reducible apply ev_op2) | (with_reducible apply ev_op1) | (with_reducible apply ev_opN) | (with_reducible apply ev_call) | (with_reducible apply ev_val) | (with_reducible apply ev_notT)
  | ((with_reducible apply ev_and1); (focus ((array_get_dec; done))); (focus ((first | (with_reducible rfl) | (with_reducible assumption) | exact Bool.not_true | exact Bool.not_false | exact decide_eq_true (by first | (with_reducible assumption) | omega) | exact decide_eq_false (by first | (with_reducible assumption) | omega) | exact nd_t (by first | (with_reducible assumption) | omega) | exact nd_f (by first | (with_reducible assumption) | omega) | exact nb_t (by first | (with_reducible assumption) | omega) | exact nb_f (by first | (with_reducible assumption) | omega) | (simp only [decide_true, decide_false, Bool.not_true, Bool.not_false, Bool.true_and, Bool.and_true, Bool.false_and, Bool.and_false, Bool.or_true, Bool.true_or, Bool.or_false, Bool.false_or]; done))))) | ((with_reducible apply ev_and2); (focus ((array_get_dec; done))); (focus ((first | (with_reducible rfl) | (with_reducible assumption) | exact Bool.not_true | exact Bool.not_false | exact decide_eq_true (by first | (with_reducible assumption) | omega) | exact decide_eq_false (by first | (with_reducible assumption) | omega) | exact nd_t (by first | (with_reducible assumption) | omega) | exact nd_f (by first | (with_reducible assumption) | omega) | exact nb_t (by first | (with_reducible assumption) | omega) | exact nb_f (by first | (with_reducible assumption) | omega) | (simp only [decide_true, decide_false, Bool.not_true, Bool.not_false, Bool.true_and, Bool.and_true, Bool.false_and, Bool.and_false, Bool.or_true, Bool.true_or, Bool.or_false, Bool.false_or]; done))))) | ((with_reducible apply ev_or1); (focus ((array_get_dec; done))); (focus ((first | (with_reducible rfl) | (with_reducible assumption) | exact Bool.not_true | exact Bool.not_false | exact decide_eq_true (by first | (with_reducible assumption) | omega) | exact decide_eq_false (by first | (with_reducible assumption) | omega) | exact nd_t (by first | (with_reducible assumption) | omega) | exact nd_f (by first | (with_reducible assumption) | omega) | exact nb_t (by first | (with_reducible assumption) | omega) | exact nb_f (by first | (with_reducible assumption) | omega) | (simp only [decide_true, decide_false, Bool.not_true, Bool.not_false, Bool.true_and, Bool.and_true, Bool.false_and, Bool.and_false, Bool.or_true, Bool.true_or, Bool.or_false, Bool.false_or]; done))))) | ((with_reducible apply ev_or2); (focus ((array_get_dec; done))); (focus ((first | (with_reducible rfl) | (with_reducible assumption) | exact Bool.not_true | exact Bool.not_false | exact decide_eq_true (by first | (with_reducible assumption) | omega) | exact decide_eq_false (by first | (with_reducible assumption) | omega) | exact nd_t (by first | (with_reducible assumption) | omega) | exact nd_f (by first | (with_reducible assumption) | omega) | exact nb_t (by first | (with_reducible assumption) | omega) | exact nb_f (by first | (with_reducible assumption) | omega) | (simp only [decide_true, decide_false, Bool.not_true, Bool.not_false, Bool.true_and, Bool.and_true, Bool.false_and, Bool.and_false, Bool.or_true, Bool.true_or, Bool.or_false, Bool.false_or]; done))))) | ((with_reducible apply ev_ifE1); (focus ((array_get_dec; done))); (focus ((first | (with_reducible rfl) | (with_reducible assumption) | exact Bool.not_true | exact Bool.not_false | exact decide_eq_true (by first | (with_reducible assumption) | omega) | exact decide_eq_false (by first | (with_reducible assumption) | omega) | exact nd_t (by first | (with_reducible assumption) | omega) | exact nd_f (by first | (with_reducible assumption) | omega) | exact nb_t (by first | (with_reducible assumption) | omega) | exact nb_f (by first | (with_reducible assumption) | omega) | (simp only [decide_true, decide_false, Bool.not_true, Bool.not_false, Bool.true_and, Bool.and_true, Bool.false_and, Bool.and_false, Bool.or_true, Bool.true_or, Bool.or_false, Bool.false_or]; done))))) | ((with_reducible apply ev_ifE2); (focus ((array_get_dec; done))); (focus ((first | (with_reducible rfl) | (with_reducible assumption) | exact Bool.not_true | exact Bool.not_false | exact decide_eq_true (by first | (with_reducible assumption) | omega) | exact decide_eq_false (by first | (with_reducible assumption) | omega) | exact nd_t (by first | (with_reducible assumption) | omega) | exact nd_f (by first | (with_reducible assumption) | omega) | exact nb_t (by first | (with_reducible assumption) | omega) | exact nb_f (by first | (with_reducible assumption) | omega) | (simp only [decide_true, decide_false, Bool.not_true, Bool.not_false, Bool.true_and, Bool.and_true, Bool.false_and, Bool.and_false, Bool.or_true, Bool.true_or, Bool.or_false, Bool.false_or]; done))))) | ((with_reducible apply ev_ifF1); (focus ((array_get_dec; done))); (focus ((first | (with_reducible rfl) | (with_reducible assumption) | exact Bool.not_true | exact Bool.not_false | exact decide_eq_true (by first | (with_reducible assumption) | omega) | exact decide_eq_false (by first | (with_reducible assumption) | omega) | exact nd_t (by first | (with_reducible assumption) | omega) | exact nd_f (by first | (with_reducible assumption) | omega) | exact nb_t (by first | (with_reducible assumption) | omega) | exact nb_f (by first | (with_reducible assumption) | omega) | (simp only [decide_true, decide_false, Bool.not_true, Bool.not_false, Bool.true_and, Bool.and_true, Bool.false_and, Bool.and_false, Bool.or_true, Bool.true_or, Bool.or_false, Bool.false_or]; done))))) | ((with_reducible apply ev_ifF2); (focus ((array_get_dec; done))); (focus ((first | (with_reducible rfl) | (with_reducible assumption) | exact Bool.not_true | exact Bool.not_false | exact decide_eq_true (by first | (with_reducible assumption) | omega) | exact decide_eq_false (by first | (with_reducible assumption) | omega) | exact nd_t (by first | (with_reducible assumption) | omega) | exact nd_f (by first | (with_reducible assumption) | omega) | exact nb_t (by first | (with_reducible assumption) | omega) | exact nb_f (by first | (with_reducible assumption) | omega) | (simp only [decide_true, decide_false, Bool.not_true, Bool.not_false, Bool.true_and, Bool.and_true, Bool.false_and, Bool.and_false, Bool.or_true, Bool.true_or, Bool.or_false, Bool.false_or]; done)))))
  | (with_reducible apply ev_and) | (with_reducible apply ev_or) | (with_reducible apply ev_frz) | (with_reducible apply ev_tup) | (with_reducible apply ev_lst) | (with_reducible apply ev_opNF) | (with_reducible apply ev_op2F) | (with_reducible apply ev_callB) | (with_reducible apply ev_starA) | (with_reducible apply ev_permA) | (with_reducible apply ev_app) | (with_reducible apply ev_ext) | (with_reducible apply ev_pop) | (with_reducible apply ev_rem) | (with_reducible apply ev_aPart) | (with_reducible apply ev_sl) | (with_reducible apply ev_ixT) | (with_reducible apply ev_andE) | (with_reducible apply ev_orE) | (with_reducible apply ev_notE) | (with_reducible apply ev_ifE) | (with_reducible apply ev_consMd) | (with_reducible apply ev_consMf) | (with_reducible apply ev_rng1) | (with_reducible apply ev_seqI) | (with_reducible apply ev_lrg1) | (with_reducible apply ev_lrg2) | (with_reducible apply ev_mk)
  | (with_reducible apply dv_addL) | (with_reducible apply dv_addT) | (with_reducible apply dv_cat)
  | (with_reducible exact dv_eqI _ _) | (with_reducible exact dv_neI _ _) | (with_reducible exact dv_eqS _ _) | (with_reducible exact dv_neS _ _)
  | ((with_reducible show eqD _ _ = some _); exact dv_eqS _ _) | ((with_reducible show neD _ _ = some _); exact dv_neS _ _)
  | (with_reducible exact datAll_dsA _ _ _ (by rfl)) | (with_reducible exact datAll_ds _)
  | ((with_reducible show _ ≤ _); sizeOf_list_dec) | ((with_reducible show _ < _); sizeOf_list_dec)
  | ((with_reducible show (_ : Rho) = _); first | (dsimp only [List.set]; done) | exact rfl)
  | ((with_reducible show (_ : Nat) = _); exact rfl)
  | exact (rfl : _ = some _) | exact (rfl : _ = true) | exact (rfl : _ = false)
  | (intro _))
local macro_rules | `(tactic| array_mem_dec) => `(tactic| repeat' first
  | with_reducible assumption
  | (with_reducible exact ev_next) | (with_reducible exact ev_raise0)
  | ((with_reducible apply ev_seqN); (focus (first | ((with_reducible apply ev_asg); (array_get_dec; done)) | ((with_reducible apply ev_asgM); (array_get_dec; done)) | ((with_reducible apply ev_par); (array_get_dec; done)) | ((with_reducible apply ev_drop); (array_get_dec; done)) | ((with_reducible apply ev_aug); (array_get_dec; done)) | ((with_reducible apply ev_put); (array_get_dec; done)) | (with_reducible assumption) | ((with_reducible apply ev_ifS2); (focus ((array_get_dec; done))); (focus ((first | (with_reducible rfl) | (with_reducible assumption) | exact Bool.not_true | exact Bool.not_false | exact decide_eq_true (by first | (with_reducible assumption) | omega) | exact decide_eq_false (by first | (with_reducible assumption) | omega) | exact nd_t (by first | (with_reducible assumption) | omega) | exact nd_f (by first | (with_reducible assumption) | omega) | exact nb_t (by first | (with_reducible assumption) | omega) | exact nb_f (by first | (with_reducible assumption) | omega) | (simp only [decide_true, decide_false, Bool.not_true, Bool.not_false, Bool.true_and, Bool.and_true, Bool.false_and, Bool.and_false, Bool.or_true, Bool.true_or, Bool.or_false, Bool.false_or]; done)))); exact ev_next))); (focus (first | (dsimp only [List.set, setsR]; done) | exact rfl)))
  | ((with_reducible apply ev_seqR); (focus ((with_reducible apply ev_ifS1); (focus ((array_get_dec; done))); (focus ((first | (with_reducible rfl) | (with_reducible assumption) | exact Bool.not_true | exact Bool.not_false | exact decide_eq_true (by first | (with_reducible assumption) | omega) | exact decide_eq_false (by first | (with_reducible assumption) | omega) | exact nd_t (by first | (with_reducible assumption) | omega) | exact nd_f (by first | (with_reducible assumption) | omega) | exact nb_t (by first | (with_reducible assumption) | omega) | exact nb_f (by first | (with_reducible assumption) | omega) | (simp only [decide_true, decide_false, Bool.not_true, Bool.not_false, Bool.true_and, Bool.and_true, Bool.false_and, Bool.and_false, Bool.or_true, Bool.true_or, Bool.or_false, Bool.false_or]; done)))); ((with_reducible apply ev_ret); (array_get_dec; done)))))
  | ((with_reducible apply ev_seqX); (focus ((with_reducible apply ev_ifS1); (focus ((array_get_dec; done))); (focus ((first | (with_reducible rfl) | (with_reducible assumption) | exact Bool.not_true | exact Bool.not_false | exact decide_eq_true (by first | (with_reducible assumption) | omega) | exact decide_eq_false (by first | (with_reducible assumption) | omega) | exact nd_t (by first | (with_reducible assumption) | omega) | exact nd_f (by first | (with_reducible assumption) | omega) | exact nb_t (by first | (with_reducible assumption) | omega) | exact nb_f (by first | (with_reducible assumption) | omega) | (simp only [decide_true, decide_false, Bool.not_true, Bool.not_false, Bool.true_and, Bool.and_true, Bool.false_and, Bool.and_false, Bool.or_true, Bool.true_or, Bool.or_false, Bool.false_or]; done)))); (first | exact ev_raise0 | ((with_reducible apply ev_raise); (array_get_dec; done))))))
  | ((with_reducible apply ev_seqN); (focus ((with_reducible apply ev_ifS1); (focus ((array_get_dec; done))); (focus ((first | (with_reducible rfl) | (with_reducible assumption) | exact Bool.not_true | exact Bool.not_false | exact decide_eq_true (by first | (with_reducible assumption) | omega) | exact decide_eq_false (by first | (with_reducible assumption) | omega) | exact nd_t (by first | (with_reducible assumption) | omega) | exact nd_f (by first | (with_reducible assumption) | omega) | exact nb_t (by first | (with_reducible assumption) | omega) | exact nb_f (by first | (with_reducible assumption) | omega) | (simp only [decide_true, decide_false, Bool.not_true, Bool.not_false, Bool.true_and, Bool.and_true, Bool.false_and, Bool.and_false, Bool.or_true, Bool.true_or, Bool.or_false, Bool.false_or]; done)))); (array_mem_dec; done))); (focus (first | (dsimp only [List.set, setsR]; done) | exact rfl)))
  | ((with_reducible apply ev_ifS1); (focus ((array_get_dec; done))); (focus ((first | (with_reducible rfl) | (with_reducible assumption) | exact Bool.not_true | exact Bool.not_false | exact decide_eq_true (by first | (with_reducible assumption) | omega) | exact decide_eq_false (by first | (with_reducible assumption) | omega) | exact nd_t (by first | (with_reducible assumption) | omega) | exact nd_f (by first | (with_reducible assumption) | omega) | exact nb_t (by first | (with_reducible assumption) | omega) | exact nb_f (by first | (with_reducible assumption) | omega) | (simp only [decide_true, decide_false, Bool.not_true, Bool.not_false, Bool.true_and, Bool.and_true, Bool.false_and, Bool.and_false, Bool.or_true, Bool.true_or, Bool.or_false, Bool.false_or]; done))))) | ((with_reducible apply ev_ifS2); (focus ((array_get_dec; done))); (focus ((first | (with_reducible rfl) | (with_reducible assumption) | exact Bool.not_true | exact Bool.not_false | exact decide_eq_true (by first | (with_reducible assumption) | omega) | exact decide_eq_false (by first | (with_reducible assumption) | omega) | exact nd_t (by first | (with_reducible assumption) | omega) | exact nd_f (by first | (with_reducible assumption) | omega) | exact nb_t (by first | (with_reducible assumption) | omega) | exact nb_f (by first | (with_reducible assumption) | omega) | (simp only [decide_true, decide_false, Bool.not_true, Bool.not_false, Bool.true_and, Bool.and_true, Bool.false_and, Bool.and_false, Bool.or_true, Bool.true_or, Bool.or_false, Bool.false_or]; done)))))
  | ((with_reducible apply ev_ret); (array_get_dec; done)) | ((with_reducible apply ev_retF); (array_get_dec; done)) | ((with_reducible apply ev_asg); (array_get_dec; done)) | ((with_reducible apply ev_asgM); (array_get_dec; done)) | ((with_reducible apply ev_par); (array_get_dec; done)) | ((with_reducible apply ev_drop); (array_get_dec; done)) | ((with_reducible apply ev_aug); (array_get_dec; done)) | ((with_reducible apply ev_put); (array_get_dec; done)) | ((with_reducible apply ev_raise); (array_get_dec; done)))
/-! ### share_change, drawn LISTs -/
theorem setS_id {ws : List Str} (h : ws.Pairwise LtS) : setS ws = ws := by unfold setS; rw [uniq_id (pw_nodup h), sort_id h]
theorem set_of_strs {x : D} {ws : List Str} (hx : x.items? = some (ws.map D.str)) (hl : ws.length ≤ 1000) : f_set_of [x] = .ok (sT (setS ws)) := by
  have e := items_sortSet hx hl
  have t : tupleTD [.lst ((setS ws).map D.str)] = some (sT (setS ws)) := rfl
  refine ev_runF [.d x] ?_
  apply Exists.intro
  unfold m_set_of
  array_mem_dec
def minusS (A B : List Str) : List Str := A.filter fun w => !decide (w ∈ B)
theorem minus_up {A B : List Str} (h : A.Pairwise LtS) : (minusS A B).Pairwise LtS := h.sublist List.filter_sublist
theorem share_change_ok {x y : D} {A B : List Str} (hx : x.items? = some (A.map D.str)) (hy : y.items? = some (B.map D.str)) (hA : A.length ≤ 1000) (hB : B.length ≤ 1000) (uA : A.Pairwise LtS) (uB : B.Pairwise LtS) : f_share_change [x, y] = .ok (.tup [sT (minusS A B), sT (minusS B A)]) := by
  have l1 : (minusS A B).length ≤ 1000 := Nat.le_trans (List.length_filter_le _ _) hA
  have l2 : (minusS B A).length ≤ 1000 := Nat.le_trans (List.length_filter_le _ _) hB
  have c1 : m_share_change_c1 [.d x, .d y, .no, .no] = .ok ((minusS A B).map D.str) [.d x, .d y, .no, .no] := by
    refine comp_t (vs := [3]) (ρ0 := [.d x, .d y, .no, .no]) (l := A) (e := D.str) (p := fun w => !decide (w ∈ B)) (g := D.str) (ev_seqI rfl (items_seq hx)) rfl (by omega) (fun w _ => ⟨[.d x, .d y, .no, .d (.str w)], rfl, ?_, fun _ => rfl, rfl⟩)
    unfold m_share_change_t1
    have := nin_strs hy w
    array_get_dec
  have c2 : m_share_change_c2 [.d x, .d y, .d (sT (minusS A B)), .no] = .ok ((minusS B A).map D.str) [.d x, .d y, .d (sT (minusS A B)), .no] := by
    refine comp_t (vs := [3]) (ρ0 := [.d x, .d y, .d (sT (minusS A B)), .no]) (l := B) (e := D.str) (p := fun w => !decide (w ∈ A)) (g := D.str) (ev_seqI rfl (items_seq hy)) rfl (by omega) (fun w _ => ⟨[.d x, .d y, .d (sT (minusS A B)), .d (.str w)], rfl, ?_, fun _ => rfl, rfl⟩)
    unfold m_share_change_t2
    have := nin_strs hx w
    array_get_dec
  have s1 := set_of_strs (x := .lst ((minusS A B).map D.str)) rfl l1
  have s2 := set_of_strs (x := .lst ((minusS B A).map D.str)) rfl l2
  rw [setS_id (minus_up uA)] at s1
  rw [setS_id (minus_up uB)] at s2
  refine ev_runF [.d x, .d y, .no, .no] ?_
  apply Exists.intro
  unfold m_share_change
  array_mem_dec
def poolL : List Str := ["x", "y", "z", "w", "v", "u", "t", "s", "a", "b", "ab", "zzzzzzzz"]
theorem poolL_nodup : poolL.Nodup := by decide +kernel
theorem likes_ok {k : Nat} {ns : List Int} {m : Nat} (hb : Bx k ns) (hm : m ≤ 11) (hk : k < 1100000) : ∃ (L : List Str) (ns' : List Int), f_law_likes ns [.int m] = some (sT L, ns') ∧ L.Nodup ∧ L.length ≤ 11 ∧ Bx (k + 12) ns' := by
  have c1 := ct_toL (poolL.map D.str) m
  rw [← List.map_take] at c1
  have hlt : (poolL.take m).length ≤ 12 := by rw [List.length_take]; exact Nat.le_trans (Nat.min_le_right _ _) (by decide)
  obtain ⟨ys, ns', e, ⟨zs, hp⟩, hy, hb'⟩ := pick_ok (xs := (poolL.take m).map D.str) (c := m) hb (by omega) (by rw [List.length_map]; omega) (by omega)
  obtain ⟨vs, hv, hvp⟩ := perm_strs hp
  have hvn : vs.Nodup := hvp.nodup_iff.2 (poolL_nodup.sublist (List.take_sublist _ _))
  obtain ⟨L, R, rfl, rfl, rfl⟩ := List.map_eq_append_iff.1 hv.symm
  have hLn : L.Nodup := (List.nodup_append.1 hvn).1
  have hLl : L.length ≤ 11 := by rw [List.length_map] at hy; omega
  refine ⟨L, ns', ?_, hLn, hLl, hb'.mono (by rw [List.length_map]; omega)⟩
  have o : onlyB 0 [.b ns, .d (.int m), .d (.lst (poolL.map D.str))] = true := rfl
  have t : tupleTD [.lst (L.map D.str)] = some (sT L) := rfl
  refine ev_runB [.b ns, .d (.int m), .no] ?_
  refine ⟨[.b ns', .d (.int m), .d (.lst (poolL.map D.str))], ?_, rfl⟩
  unfold m_law_likes
  refine ev_seqN (ρ1 := [.b ns, .d (.int m), .d (.lst (poolL.map D.str))]) rfl rfl ?_
  refine ev_ret ?_
  array_get_dec
/-! ### one LIST, all places -/
def valN (L : List Str) (s : Str) (k : Nat) : Nat → D
  | 0 => val0 L k
  | 1 => val1 L s k
  | _ => val2 L s
theorem good_val (L : List Str) (s : Str) (k i : Nat) (hl : L.length ≤ 1000) : good 7 (valN L s k i) = true := by
  have g1 : ∀ M : List Str, M.length ≤ 3000 → good 7 (sT M) = true := fun M hM => good_strs 5 (by omega)
  have g2 : ∀ j, good 7 (farD j) = true := fun j => rfl
  match i with
  | 0 =>
    show good 7 (val0 L k) = true
    cases k with
    | zero => exact g2 0
    | succ j =>
      simp only [val0]
      split
      · refine g1 _ ?_
        unfold swp; simp; omega
      · exact g2 _
  | 1 =>
    show good 7 (val1 L s k) = true
    cases k with
    | zero => exact g2 0
    | succ j =>
      simp only [val1]
      split
      · exact g2 _
      · split
        · rfl
        · refine g1 _ ?_
          unfold putS; simp; omega
  | j + 2 =>
    show good 7 (val2 L s) = true
    simp only [val2]
    split
    · exact g1 _ (Nat.le_trans (List.length_filter_le _ _) (by omega))
    · rfl
theorem heardN {x : D} {L : List Str} {s : Str} {k i : Nat} (hx : x.items? = some (L.map D.str)) (hl : L.length ≤ 1000) (hi : i < 3) : f_law_heard [.int (i : Nat), x, .int (k : Nat), .str s] = .ok (valN L s k i) := by
  match i, hi with
  | 0, _ => exact heard0 hx hl
  | 1, _ => exact heard1 hx hl
  | 2, _ => exact heard2 hx hl
theorem dueN {L : List Str} {s : Str} {k i : Nat} (hl : L.length ≤ 1000) (hi : i < 3) : f_law_due [.int (i : Nat), sT L, .int (k : Nat), .str s] = .ok (valN L s k i) := by
  match i, hi with
  | 0, _ => exact due0 hl
  | 1, _ => exact due1 hl
  | 2, _ => exact due2 hl
abbrev NM : D := .lst [.str "x", .str "y", .str "q", .str "zzzzzzzz", .str "ab"]
section
variable {ns : List Int} {L : List Str} {s : Str} {k : Nat} {d : D} {c6 c7 c8 c9 : Cell}
theorem in_c1 (hl : L.length ≤ 1000) : m_law_right_c1 [.b ns, .d d, .d (sT L), .d NM, .d (.int (k : Nat)), .d (.str s), c6, c7, c8, c9, .no, .no] = .ok [valN L s k 0, valN L s k 1, valN L s k 2] [.b ns, .d d, .d (sT L), .d NM, .d (.int (k : Nat)), .d (.str s), c6, c7, c8, c9, .no, .no] := by
  refine comp_m (vs := [11]) (ρ0 := [.b ns, .d d, .d (sT L), .d NM, .d (.int (k : Nat)), .d (.str s), c6, c7, c8, c9, .no, .no]) (l := [0, 1, 2]) (e := fun i : Nat => D.int (i : Nat)) (g := valN L s k) rfl rfl (by simp) (fun i hi => ⟨[.b ns, .d d, .d (sT L), .d NM, .d (.int (k : Nat)), .d (.str s), c6, c7, c8, c9, .no, .d (.int (i : Nat))], rfl, ?_, rfl⟩)
  have := heardN (x := sT L) (s := s) (k := k) rfl hl (i := i) (by simp at hi; omega)
  unfold m_law_right_e1
  array_get_dec
theorem in_c2 (hl : L.length ≤ 1000) : m_law_right_c2 [.b ns, .d d, .d (sT L), .d NM, .d (.int (k : Nat)), .d (.str s), c6, c7, c8, c9, .no, .no] = .ok [valN L s k 0, valN L s k 1, valN L s k 2] [.b ns, .d d, .d (sT L), .d NM, .d (.int (k : Nat)), .d (.str s), c6, c7, c8, c9, .no, .no] := by
  refine comp_m (vs := [11]) (ρ0 := [.b ns, .d d, .d (sT L), .d NM, .d (.int (k : Nat)), .d (.str s), c6, c7, c8, c9, .no, .no]) (l := [0, 1, 2]) (e := fun i : Nat => D.int (i : Nat)) (g := valN L s k) rfl rfl (by simp) (fun i hi => ⟨[.b ns, .d d, .d (sT L), .d NM, .d (.int (k : Nat)), .d (.str s), c6, c7, c8, c9, .no, .d (.int (i : Nat))], rfl, ?_, rfl⟩)
  have := heardN (x := .lst (L.map D.str)) (s := s) (k := k) rfl hl (i := i) (by simp at hi; omega)
  have f1 : listF [sT L] = some (L.map D.str) := rfl
  unfold m_law_right_e2
  array_get_dec
theorem in_c3 (hl : L.length ≤ 1000) : m_law_right_c3 [.b ns, .d d, .d (sT L), .d NM, .d (.int (k : Nat)), .d (.str s), c6, c7, c8, c9, .no, .no] = .ok [valN L s k 0, valN L s k 1, valN L s k 2] [.b ns, .d d, .d (sT L), .d NM, .d (.int (k : Nat)), .d (.str s), c6, c7, c8, c9, .no, .no] := by
  refine comp_m (vs := [11]) (ρ0 := [.b ns, .d d, .d (sT L), .d NM, .d (.int (k : Nat)), .d (.str s), c6, c7, c8, c9, .no, .no]) (l := [0, 1, 2]) (e := fun i : Nat => D.int (i : Nat)) (g := valN L s k) rfl rfl (by simp) (fun i hi => ⟨[.b ns, .d d, .d (sT L), .d NM, .d (.int (k : Nat)), .d (.str s), c6, c7, c8, c9, .no, .d (.int (i : Nat))], rfl, ?_, rfl⟩)
  have := dueN (L := L) (s := s) (k := k) hl (i := i) (by simp at hi; omega)
  unfold m_law_right_e3
  array_get_dec
end
theorem plain_b {c : Cell} (h : plainC c = true) : isB c = false := by cases c <;> simp [plainC, isB] at *
theorem in_turn {k q : Nat} {ns : List Int} {L : List Str} {d : D} {c4 c5 c6 c7 c8 c9 : Cell} (hl : L.length ≤ 1000) (h4 : plainC c4 = true) (h5 : plainC c5 = true) (h6 : plainC c6 = true) (h7 : plainC c7 = true) (h8 : plainC c8 = true) (h9 : plainC c9 = true) (hb : Bx k ns) (hk : k < 1200000) :
    ∃ ns' c5' c6', turnS (nameG 4) m_law_right_b1 (.int (q : Nat)) [.b ns, .d d, .d (sT L), .d NM, c4, c5, c6, c7, c8, c9, .no, .no] = .nx [.b ns', .d d, .d (sT L), .d NM, .d (.int (q : Nat)), c5', c6', c7, c8, c9, .no, .no] ∧ plainC c5' = true ∧ plainC c6' = true ∧ Bx (k + 1) ns' := by
  obtain ⟨x, ns1, e1, hx, hb1⟩ := of_ok (xs := [.str "x", .str "y", .str "q", .str "zzzzzzzz", .str "ab"]) hb (by simp) (by simp) (by omega)
  obtain ⟨s, rfl⟩ : ∃ s : Str, x = .str s := by
    simp at hx
    rcases hx with rfl | rfl | rfl | rfl | rfl <;> exact ⟨_, rfl⟩
  have i1 := in_c1 (ns := ns1) (L := L) (s := s) (k := q) (d := d) (c6 := c6) (c7 := c7) (c8 := c8) (c9 := c9) hl
  have i2 := in_c2 (ns := ns1) (L := L) (s := s) (k := q) (d := d) (c6 := .d (.lst [valN L s q 0, valN L s q 1, valN L s q 2])) (c7 := c7) (c8 := c8) (c9 := c9) hl
  have i3 := in_c3 (ns := ns1) (L := L) (s := s) (k := q) (d := d) (c6 := .d (.lst [valN L s q 0, valN L s q 1, valN L s q 2, valN L s q 0, valN L s q 1, valN L s q 2])) (c7 := c7) (c8 := c8) (c9 := c9) hl
  have g0 := good_val L s q 0 hl
  have g1 := good_val L s q 1 hl
  have g2 := good_val L s q 2 hl
  generalize valN L s q 0 = v0 at *
  generalize valN L s q 1 = v1 at *
  generalize valN L s q 2 = v2 at *
  have ad : addD (.lst [v0, v1, v2]) (.lst [v0, v1, v2]) = some (.lst [v0, v1, v2, v0, v1, v2]) := rfl
  have ml : mulD (.lst [v0, v1, v2]) (.int 2) = some (.lst [v0, v1, v2, v0, v1, v2]) := rfl
  have sm := same_ok 8 (.lst [v0, v1, v2, v0, v1, v2]) (good_cL g0 (good_cL g1 (good_cL g2 (good_cL g0 (good_cL g1 (good_cL g2 rfl))))))
  have ho : onlyB 0 [.b ns, .d d, .d (sT L), .d NM, .d (.int (q : Nat)), c5, c6, c7, c8, c9, .no, .no] = true := by
    simp only [onlyB, List.set, List.all_cons, List.all_nil, plain_b h5, plain_b h6, plain_b h7, plain_b h8, plain_b h9]; rfl
  refine ⟨ns1, .d (.str s), .d (.lst [v0, v1, v2, v0, v1, v2]), ?_, rfl, rfl, hb1⟩
  refine ev_turn (ρ1 := [.b ns, .d d, .d (sT L), .d NM, .d (.int (q : Nat)), c5, c6, c7, c8, c9, .no, .no]) rfl ?_
  unfold m_law_right_b1
  apply Eq.trans
  · array_mem_dec
  · rfl
theorem in_loop {ns : List Int} {k : Nat} {L : List Str} {d : D} {c4 c5 c6 c7 c8 c9 : Cell} (hl : L.length ≤ 100) (h4 : plainC c4 = true) (h5 : plainC c5 = true) (h6 : plainC c6 = true) (h7 : plainC c7 = true) (h8 : plainC c8 = true) (h9 : plainC c9 = true) (hb : Bx k ns) (hk : k < 1100000) :
    ∃ ns' c4' c5' c6', m_law_right_l1 [.b ns, .d d, .d (sT L), .d NM, c4, c5, c6, c7, c8, c9, .no, .no] = .nx [.b ns', .d d, .d (sT L), .d NM, c4', c5', c6', c7, c8, c9, .no, .no] ∧ plainC c4' = true ∧ plainC c5' = true ∧ plainC c6' = true ∧ Bx (k + (L.length + 3)) ns' := by
  obtain ⟨ρ', el, hi⟩ := loop_inv (body := turnS (nameG 4) m_law_right_b1) (fun j ρ => j ≤ L.length + 3 → ∃ ns' c4' c5' c6', ρ = [.b ns', .d d, .d (sT L), .d NM, c4', c5', c6', c7, c8, c9, .no, .no] ∧ plainC c4' = true ∧ plainC c5' = true ∧ plainC c6' = true ∧ Bx (k + j) ns') (rng 0 (L.length + 3)) 0 [.b ns, .d d, .d (sT L), .d NM, c4, c5, c6, c7, c8, c9, .no, .no] (fun _ => ⟨ns, c4, c5, c6, rfl, h4, h5, h6, hb⟩) (fun j dd ρ hj hI => by
    obtain ⟨hj1, rfl⟩ := rng_at hj
    obtain ⟨ns1, a4, a5, a6, rfl, g4, g5, g6, hb1⟩ := hI (by omega)
    obtain ⟨ns2, b5, b6, e, f5, f6, hb2⟩ := in_turn (q := j) (L := L) (d := d) (by omega) g4 g5 g6 h7 h8 h9 hb1 (by omega)
    rw [Int.zero_add]
    exact ⟨_, e, fun _ => ⟨ns2, _, b5, b6, rfl, rfl, f5, f6, by rw [show k + (0 + j + 1) = k + (0 + j) + 1 by omega]; exact hb2⟩⟩)
  rw [rng_len, Nat.zero_add] at hi
  obtain ⟨ns', c4', c5', c6', rfl, g4, g5, g6, hb'⟩ := hi (Nat.le_refl _)
  refine ⟨ns', c4', c5', c6', ?_, g4, g5, g6, hb'⟩
  unfold m_law_right_l1
  refine ev_for (ds := rng 0 (L.length + 3)) (ρ1 := [.b ns, .d d, .d (sT L), .d NM, c4, c5, c6, c7, c8, c9, .no, .no]) ?_ el
  have l1 : lenD [sT L] = some (.int L.length) := len_of rfl
  have a1 : addD (.int (L.length : Nat)) (.int 3) = some (.int ((L.length + 3 : Nat) : Int)) := rfl
  refine ev_rng1 ?_ (by omega)
  array_get_dec
end Lw
namespace Lw
open PySem Lq
local macro_rules | `(tactic| sizeOf_list_dec) => `(tactic| first | omega | (simp only [List.length_append, List.length_map, List.length_cons, List.length_nil, List.length_take, List.length_drop, List.length_reverse, List.length_set, List.length_replicate, List.length_singleton, List.length_range]; omega) | (simp; omega))
local macro_rules | `(tactic| array_get_dec) => `(tactic| repeat' first
  | with_reducible assumption
  | (with_reducible exact ev_const) | (with_reducible exact ev_nilA) | (with_reducible exact ev_nilM) | (with_reducible exact ev_noPart) | (with_reducible exact ev_dfA) | (with_reducible exact ev_mk0)
  | ((with_reducible apply ev_name); (exact rfl)) | ((with_reducible apply ev_nameM); (exact rfl)) | ((with_reducible apply ev_nameB); (exact rfl))
  | (with_reducible apply ev_consA) | (with_reducible apply ev_op2) | (with_reducible apply ev_op1) | (with_reducible apply ev_opN) | (with_reducible apply ev_call) | (with_reducible apply ev_val) | (with_reducible apply ev_notT)
  | ((with_reducible apply ev_and1); (focus ((array_get_dec; done))); (focus ((first | (with_reducible rfl) | (with_reducible assumption) | exact Bool.not_true | exact Bool.not_false | exact decide_eq_true (by first | (with_reducible assumption) | omega) | exact decide_eq_false (by first | (with_reducible assumption) | omega) | exact nd_t (by first | (with_reducible assumption) | omega) | exact nd_f (by first | (with_reducible assumption) | omega) | exact nb_t (by first | (with_reducible assumption) | omega) | exact nb_f (by first | (with_reducible assumption) | omega) | (simp only [decide_true, decide_false, Bool.not_true, Bool.not_false, Bool.true_and, Bool.and_true, Bool.false_and, Bool.and_false, Bool.or_true, Bool.true_or, Bool.or_false, Bool.false_or]; done))))) | ((with_reducible apply ev_and2); (focus ((array_get_dec; done))); (focus ((first | (with_reducible rfl) | (with_reducible assumption) | exact Bool.not_true | exact Bool.not_false | exact decide_eq_true (by first | (with_reducible assumption) | omega) | exact decide_eq_false (by first | (with_reducible assumption) | omega) | exact nd_t (by first | (with_reducible assumption) | omega) | exact nd_f (by first | (with_reducible assumption) | omega) | exact nb_t (by first | (with_reducible assumption) | omega) | exact nb_f (by first | (with_reducible assumption) | omega) | (simp only [decide_true, decide_false, Bool.not_true, Bool.not_false, Bool.true_and, Bool.and_true, Bool.false_and, Bool.and_false, Bool.or_true, Bool.true_or, Bool.or_false, Bool.false_or]; done))))) | ((with_reducible apply ev_or1); (focus ((array_get_dec; done))); (focus ((first | (with_reducible rfl) | (with_reducible assumption) | exact Bool.not_true | exact Bool.not_false | exact decide_eq_true (by first | (with_reducible assumption) | omega) | exact decide_eq_false (by first | (with_reducible assumption) | omega) | exact nd_t (by first | (with_reducible assumption) | omega) | exact nd_f (by first | (with_reducible assumption) | omega) | exact nb_t (by first | (with_reducible assumption) | omega) | exact nb_f (by first | (with_reducible assumption) | omega) | (simp only [decide_true, decide_false, Bool.not_true, Bool.not_false, Bool.true_and, Bool.and_true, Bool.false_and, Bool.and_false, Bool.or_true, Bool.true_or, Bool.or_false, Bool.false_or]; done))))) | ((with_reducible apply ev_or2); (focus ((array_get_dec; done))); (focus ((first | (with_reducible rfl) | (with_reducible assumption) | exact Bool.not_true | exact Bool.not_false | exact decide_eq_true (by first | (with_reducible assumption) | omega) | exact decide_eq_false (by first | (with_reducible assumption) | omega) | exact nd_t (by first | (with_reducible assumption) | omega) | exact nd_f (by first | (with_reducible assumption) | omega) | exact nb_t (by first | (with_reducible assumption) | omega) | exact nb_f (by first | (with_reducible assumption) | omega) | (simp only [decide_true, decide_false, Bool.not_true, Bool.not_false, Bool.true_and, Bool.and_true, Bool.false_and, Bool.and_false, Bool.or_true, Bool.true_or, Bool.or_false, Bool.false_or]; done))))) | ((with_reducible apply ev_ifE1); (focus ((array_get_dec; done))); (focus ((first | (with_reducible rfl) | (with_reducible assumption) | exact Bool.not_true | exact Bool.not_false | exact decide_eq_true (by first | (with_reducible assumption) | omega) | exact decide_eq_false (by first | (with_reducible assumption) | omega) | exact nd_t (by first | (with_reducible assumption) | omega) | exact nd_f (by first | (with_reducible assumption) | omega) | exact nb_t (by first | (with_reducible assumption) | omega) | exact nb_f (by first | (with_reducible assumption) | omega) | (simp only [decide_true, decide_false, Bool.not_true, Bool.not_false, Bool.true_and, Bool.and_true, Bool.false_and, Bool.and_false, Bool.or_true, Bool.true_or, Bool.or_false, Bool.false_or]; done))))) | ((with_reducible apply ev_ifE2); (focus ((array_get_dec; done))); (focus ((first | (with_reducible rfl) | (with_reducible assumption) | exact Bool.not_true | exact Bool.not_false | exact decide_eq_true (by first | (with_reducible assumption) | omega) | exact decide_eq_false (by first | (with_reducible assumption) | omega) | exact nd_t (by first | (with_reducible assumption) | omega) | exact nd_f (by first | (with_reducible assumption) | omega) | exact nb_t (by first | (with_reducible assumption) | omega) | exact nb_f (by first | (with_reducible assumption) | omega) | (simp only [decide_true, decide_false, Bool.not_true, Bool.not_false, Bool.true_and, Bool.and_true, Bool.false_and, Bool.and_false, Bool.or_true, Bool.true_or, Bool.or_false, Bool.false_or]; done))))) | ((with_reducible apply ev_ifF1); (focus ((array_get_dec; done))); (focus ((first | (with_reducible rfl) | (with_reducible assumption) | exact Bool.not_true | exact Bool.not_false | exact decide_eq_true (by first | (with_reducible assumption) | omega) | exact decide_eq_false (by first | (with_reducible assumption) | omega) | exact nd_t (by first | (with_reducible assumption) | omega) | exact nd_f (by first | (with_reducible assumption) | omega) | exact nb_t (by first | (with_reducible assumption) | omega) | exact nb_f (by first | (with_reducible assumption) | omega) | (simp only [decide_true, decide_false, Bool.not_true, Bool.not_false, Bool.true_and, Bool.and_true, Bool.false_and, Bool.and_false, Bool.or_true, Bool.true_or, Bool.or_false, Bool.false_or]; done))))) | ((with_reducible apply ev_ifF2); (focus ((array_get_dec; done))); (focus ((first | (with_reducible rfl) | (with_reducible assumption) | exact Bool.not_true | exact Bool.not_false | exact decide_eq_true (by first | (with_reducible assumption) | omega) | exact decide_eq_false (by first | (with_reducible assumption) | omega) | exact nd_t (by first | (with_reducible assumption) | omega) | exact nd_f (by first | (with_reducible assumption) | omega) | exact nb_t (by first | (with_reducible assumption) | omega) | exact nb_f (by first | (with_reducible assumption) | omega) | (simp only [decide_true, decide_false, Bool.not_true, Bool.not_false, Bool.true_and, Bool.and_true, Bool.false_and, Bool.and_false, Bool.or_true, Bool.true_or, Bool.or_false, Bool.false_or]; done)))))
  | (with_reducible apply ev_and) | (with_reducible apply ev_or) | (with_reducible apply ev_frz) | (with_reducible apply ev_tup) | (with_reducible apply ev_lst) | (with_reducible apply ev_opNF) | (with_reducible apply ev_op2F) | (with_reducible apply ev_callB) | (with_reducible apply ev_starA) | (with_reducible apply ev_permA) | (with_reducible apply ev_app) | (with_reducible apply ev_ext) | (with_reducible apply ev_pop) | (with_reducible apply ev_rem) | (with_reducible apply ev_aPart) | (with_reducible apply ev_sl) | (with_reducible apply ev_ixT) | (with_reducible apply ev_andE) | (with_reducible apply ev_orE) | (with_reducible apply ev_notE) | (with_reducible apply ev_ifE) | (with_reducible apply ev_consMd) | (with_reducible apply ev_consMf) | (with_reducible apply ev_rng1) | (with_reducible apply ev_seqI) | (with_reducible apply ev_lrg1) | (with_reducible apply ev_lrg2) | (with_reducible apply ev_mk)
  | (with_reducible apply dv_addL) | (with_reducible apply dv_addT) | (with_reducible apply dv_cat)
  | (with_reducible exact dv_eqI _ _) | (with_reducible exact dv_neI _ _) | (with_reducible exact dv_eqS _ _) | (with_reducible exact dv_neS _ _)
  | ((with_reducible show eqD _ _ = some _); exact dv_eqS _ _) | ((with_reducible show neD _ _ = some _); exact dv_neS _ _)
  | (with_reducible exact datAll_dsA _ _ _ (by rfl)) | (with_reducible exact datAll_ds _)
  | ((with_reducible show _ ≤ _); sizeOf_list_dec) | ((with_reducible show _ < _); sizeOf_list_dec)
  | ((with_reducible show (_ : Rho) = _); first | (dsimp only [List.set]; done) | exact rfl)
  | ((with_reducible show (_ : Nat) = _); exact rfl)
  | exact (rfl : _ = some _) | exact (rfl : _ = true) | exact (rfl : _ = false)
  | (intro _))
local macro_rules | `(tactic| array_mem_dec) => `(tactic| repeat' first
  | with_reducible assumption
  | (with_reducible exact ev_next) | (with_reducible exact ev_raise0)
  | ((with_reducible apply ev_seqN); (focus (first | ((with_reducible apply ev_asg); (array_get_dec; done)) | ((with_reducible apply ev_asgM); (array_get_dec; done)) | ((with_reducible apply ev_par); (array_get_dec; done)) | ((with_reducible apply ev_drop); (array_get_dec; done)) | ((with_reducible apply ev_aug); (array_get_dec; done)) | ((with_reducible apply ev_put); (array_get_dec; done)) | (with_reducible assumption) | ((with_reducible apply ev_ifS2); (focus ((array_get_dec; done))); (focus ((first | (with_reducible rfl) | (with_reducible assumption) | exact Bool.not_true | exact Bool.not_false | exact decide_eq_true (by first | (with_reducible assumption) | omega) | exact decide_eq_false (by first | (with_reducible assumption) | omega) | exact nd_t (by first | (with_reducible assumption) | omega) | exact nd_f (by first | (with_reducible assumption) | omega) | exact nb_t (by first | (with_reducible assumption) | omega) | exact nb_f (by first | (with_reducible assumption) | omega) | (simp only [decide_true, decide_false, Bool.not_true, Bool.not_false, Bool.true_and, Bool.and_true, Bool.false_and, Bool.and_false, Bool.or_true, Bool.true_or, Bool.or_false, Bool.false_or]; done)))); exact ev_next))); (focus (first | (dsimp only [List.set, setsR]; done) | exact rfl)))
  | ((with_reducible apply ev_seqR); (focus ((with_reducible apply ev_ifS1); (focus ((array_get_dec; done))); (focus ((first | (with_reducible rfl) | (with_reducible assumption) | exact Bool.not_true | exact Bool.not_false | exact decide_eq_true (by first | (with_reducible assumption) | omega) | exact decide_eq_false (by first | (with_reducible assumption) | omega) | exact nd_t (by first | (with_reducible assumption) | omega) | exact nd_f (by first | (with_reducible assumption) | omega) | exact nb_t (by first | (with_reducible assumption) | omega) | exact nb_f (by first | (with_reducible assumption) | omega) | (simp only [decide_true, decide_false, Bool.not_true, Bool.not_false, Bool.true_and, Bool.and_true, Bool.false_and, Bool.and_false, Bool.or_true, Bool.true_or, Bool.or_false, Bool.false_or]; done)))); ((with_reducible apply ev_ret); (array_get_dec; done)))))
  | ((with_reducible apply ev_seqX); (focus ((with_reducible apply ev_ifS1); (focus ((array_get_dec; done))); (focus ((first | (with_reducible rfl) | (with_reducible assumption) | exact Bool.not_true | exact Bool.not_false | exact decide_eq_true (by first | (with_reducible assumption) | omega) | exact decide_eq_false (by first | (with_reducible assumption) | omega) | exact nd_t (by first | (with_reducible assumption) | omega) | exact nd_f (by first | (with_reducible assumption) | omega) | exact nb_t (by first | (with_reducible assumption) | omega) | exact nb_f (by first | (with_reducible assumption) | omega) | (simp only [decide_true, decide_false, Bool.not_true, Bool.not_false, Bool.true_and, Bool.and_true, Bool.false_and, Bool.and_false, Bool.or_true, Bool.true_or, Bool.or_false, Bool.false_or]; done)))); (first | exact ev_raise0 | ((with_reducible apply ev_raise); (array_get_dec; done))))))
  | ((with_reducible apply ev_seqN); (focus ((with_reducible apply ev_ifS1); (focus ((array_get_dec; done))); (focus ((first | (with_reducible rfl) | (with_reducible assumption) | exact Bool.not_true | exact Bool.not_false | exact decide_eq_true (by first | (with_reducible assumption) | omega) | exact decide_eq_false (by first | (with_reducible assumption) | omega) | exact nd_t (by first | (with_reducible assumption) | omega) | exact nd_f (by first | (with_reducible assumption) | omega) | exact nb_t (by first | (with_reducible assumption) | omega) | exact nb_f (by first | (with_reducible assumption) | omega) | (simp only [decide_true, decide_false, Bool.not_true, Bool.not_false, Bool.true_and, Bool.and_true, Bool.false_and, Bool.and_false, Bool.or_true, Bool.true_or, Bool.or_false, Bool.false_or]; done)))); (array_mem_dec; done))); (focus (first | (dsimp only [List.set, setsR]; done) | exact rfl)))
  | ((with_reducible apply ev_ifS1); (focus ((array_get_dec; done))); (focus ((first | (with_reducible rfl) | (with_reducible assumption) | exact Bool.not_true | exact Bool.not_false | exact decide_eq_true (by first | (with_reducible assumption) | omega) | exact decide_eq_false (by first | (with_reducible assumption) | omega) | exact nd_t (by first | (with_reducible assumption) | omega) | exact nd_f (by first | (with_reducible assumption) | omega) | exact nb_t (by first | (with_reducible assumption) | omega) | exact nb_f (by first | (with_reducible assumption) | omega) | (simp only [decide_true, decide_false, Bool.not_true, Bool.not_false, Bool.true_and, Bool.and_true, Bool.false_and, Bool.and_false, Bool.or_true, Bool.true_or, Bool.or_false, Bool.false_or]; done))))) | ((with_reducible apply ev_ifS2); (focus ((array_get_dec; done))); (focus ((first | (with_reducible rfl) | (with_reducible assumption) | exact Bool.not_true | exact Bool.not_false | exact decide_eq_true (by first | (with_reducible assumption) | omega) | exact decide_eq_false (by first | (with_reducible assumption) | omega) | exact nd_t (by first | (with_reducible assumption) | omega) | exact nd_f (by first | (with_reducible assumption) | omega) | exact nb_t (by first | (with_reducible assumption) | omega) | exact nb_f (by first | (with_reducible assumption) | omega) | (simp only [decide_true, decide_false, Bool.not_true, Bool.not_false, Bool.true_and, Bool.and_true, Bool.false_and, Bool.and_false, Bool.or_true, Bool.true_or, Bool.or_false, Bool.false_or]; done)))))
  | ((with_reducible apply ev_ret); (array_get_dec; done)) | ((with_reducible apply ev_retF); (array_get_dec; done)) | ((with_reducible apply ev_asg); (array_get_dec; done)) | ((with_reducible apply ev_asgM); (array_get_dec; done)) | ((with_reducible apply ev_par); (array_get_dec; done)) | ((with_reducible apply ev_drop); (array_get_dec; done)) | ((with_reducible apply ev_aug); (array_get_dec; done)) | ((with_reducible apply ev_put); (array_get_dec; done)) | ((with_reducible apply ev_raise); (array_get_dec; done)))
theorem take_nat {k : Nat} {ns : List Int} {n : Nat} (hb : Bx k ns) (h1 : 0 < n) (h2 : n < 1000000000) (hk : k < 1000000000) : ∃ (r : Nat) (ns' : List Int), f_law_take ns [.int n] = some (.int r, ns') ∧ r < n ∧ Bx (k + 1) ns' := by
  obtain ⟨r, ns', e, g1, g2, g3⟩ := take_ok hb (n := n) (by omega) (by omega) (by omega)
  obtain ⟨q, rfl⟩ : ∃ q : Nat, r = q := ⟨r.toNat, by omega⟩
  exact ⟨q, ns', e, by omega, g3⟩
end Lw
namespace Lw
open PySem Lq
local macro_rules | `(tactic| sizeOf_list_dec) => `(tactic| first | omega | (simp only [List.length_append, List.length_map, List.length_cons, List.length_nil, List.length_take, List.length_drop, List.length_reverse, List.length_set, List.length_replicate, List.length_singleton, List.length_range]; omega) | (simp; omega))
local macro_rules | `(tactic| array_get_dec) => `(tactic| repeat' first
  | with_reducible assumption
  | (with_reducible exact ev_const) | (with_reducible exact ev_nilA) | (with_reducible exact ev_nilM) | (with_reducible exact ev_noPart) | (with_reducible exact ev_dfA) | (with_reducible exact ev_mk0)
  | ((with_reducible apply ev_name); (exact rfl)) | ((with_reducible apply ev_nameM); (exact rfl)) | ((with_reducible apply ev_nameB); (exact rfl))
  | (with_reducible apply ev_consA) | (with_reducible apply ev_op2) | (with_reducible apply ev_op1) | (with_reducible apply ev_opN) | (with_reducible apply ev_call) | (with_reducible apply ev_val) | (with_reducible apply ev_notT)
  | ((with_reducible apply ev_and1); (focus ((array_get_dec; done))); (focus ((first | (with_reducible rfl) | (with_reducible assumption) | exact Bool.not_true | exact Bool.not_false | exact decide_eq_true (by first | (with_reducible assumption) | omega) | exact decide_eq_false (by first | (with_reducible assumption) | omega) | exact nd_t (by first | (with_reducible assumption) | omega) | exact nd_f (by first | (with_reducible assumption) | omega) | exact nb_t (by first | (with_reducible assumption) | omega) | exact nb_f (by first | (with_reducible assumption) | omega) | (simp only [decide_true, decide_false, Bool.not_true, Bool.not_false, Bool.true_and, Bool.and_true, Bool.false_and, Bool.and_false, Bool.or_true, Bool.true_or, Bool.or_false, Bool.false_or]; done))))) | ((with_reducible apply ev_and2); (focus ((array_get_dec; done))); (focus ((first | (with_reducible rfl) | (with_reducible assumption) | exact Bool.not_true | exact Bool.not_false | exact decide_eq_true (by first | (with_reducible assumption) | omega) | exact decide_eq_false (by first | (with_reducible assumption) | omega) | exact nd_t (by first | (with_reducible assumption) | omega) | exact nd_f (by first | (with_reducible assumption) | omega) | exact nb_t (by first | (with_reducible assumption) | omega) | exact nb_f (by first | (with_reducible assumption) | omega) | (simp only [decide_true, decide_false, Bool.not_true, Bool.not_false, Bool.true_and, Bool.and_true, Bool.false_and, Bool.and_false, Bool.or_true, Bool.true_or, Bool.or_false, Bool.false_or]; done))))) | ((with_reducible apply ev_or1); (focus ((array_get_dec; done))); (focus ((first | (with_reducible rfl) | (with_reducible assumption) | exact Bool.not_true | exact Bool.not_false | exact decide_eq_true (by first | (with_reducible assumption) | omega) | exact decide_eq_false (by first | (with_reducible assumption) | omega) | exact nd_t (by first | (with_reducible assumption) | omega) | exact nd_f (by first | (with_reducible assumption) | omega) | exact nb_t (by first | (with_reducible assumption) | omega) | exact nb_f (by first | (with_reducible assumption) | omega) | (simp only [decide_true, decide_false, Bool.not_true, Bool.not_false, Bool.true_and, Bool.and_true, Bool.false_and, Bool.and_false, Bool.or_true, Bool.true_or, Bool.or_false, Bool.false_or]; done))))) | ((with_reducible apply ev_or2); (focus ((array_get_dec; done))); (focus ((first | (with_reducible rfl) | (with_reducible assumption) | exact Bool.not_true | exact Bool.not_false | exact decide_eq_true (by first | (with_reducible assumption) | omega) | exact decide_eq_false (by first | (with_reducible assumption) | omega) | exact nd_t (by first | (with_reducible assumption) | omega) | exact nd_f (by first | (with_reducible assumption) | omega) | exact nb_t (by first | (with_reducible assumption) | omega) | exact nb_f (by first | (with_reducible assumption) | omega) | (simp only [decide_true, decide_false, Bool.not_true, Bool.not_false, Bool.true_and, Bool.and_true, Bool.false_and, Bool.and_false, Bool.or_true, Bool.true_or, Bool.or_false, Bool.false_or]; done))))) | ((with_reducible apply ev_ifE1); (focus ((array_get_dec; done))); (focus ((first | (with_reducible rfl) | (with_reducible assumption) | exact Bool.not_true | exact Bool.not_false | exact decide_eq_true (by first | (with_reducible assumption) | omega) | exact decide_eq_false (by first | (with_reducible assumption) | omega) | exact nd_t (by first | (with_reducible assumption) | omega) | exact nd_f (by first | (with_reducible assumption) | omega) | exact nb_t (by first | (with_reducible assumption) | omega) | exact nb_f (by first | (with_reducible assumption) | omega) | (simp only [decide_true, decide_false, Bool.not_true, Bool.not_false, Bool.true_and, Bool.and_true, Bool.false_and, Bool.and_false, Bool.or_true, Bool.true_or, Bool.or_false, Bool.false_or]; done))))) | ((with_reducible apply ev_ifE2); (focus ((array_get_dec; done))); (focus ((first | (with_reducible rfl) | (with_reducible assumption) | exact Bool.not_true | exact Bool.not_false | exact decide_eq_true (by first | (with_reducible assumption) | omega) | exact decide_eq_false (by first | (with_reducible assumption) | omega) | exact nd_t (by first | (with_reducible assumption) | omega) | exact nd_f (by first | (with_reducible assumption) | omega) | exact nb_t (by first | (with_reducible assumption) | omega) | exact nb_f (by first | (with_reducible assumption) | omega) | (simp only [decide_true, decide_false, Bool.not_true, Bool.not_false, Bool.true_and, Bool.and_true, Bool.false_and, Bool.and_false, Bool.or_true, Bool.true_or, Bool.or_false, Bool.false_or]; done))))) | ((with_reducible apply ev_ifF1); (focus ((array_get_dec; done))); (focus ((first | (with_reducible rfl) | (with_reducible assumption) | exact Bool.not_true | exact Bool.not_false | exact decide_eq_true (by first | (with_reducible assumption) | omega) | exact decide_eq_false (by first | (with_reducible assumption) | omega) | exact nd_t (by first | (with_reducible assumption) | omega) | exact nd_f (by first | (with_reducible assumption) | omega) | exact nb_t (by first | (with_reducible assumption) | omega) | exact nb_f (by first | (with_reducible assumption) | omega) | (simp only [decide_true, decide_false, Bool.not_true, Bool.not_false, Bool.true_and, Bool.and_true, Bool.false_and, Bool.and_false, Bool.or_true, Bool.true_or, Bool.or_false, Bool.false_or]; done))))) | ((with_reducible apply ev_ifF2); (focus ((array_get_dec; done))); (focus ((first | (with_reducible rfl) | (with_reducible assumption) | exact Bool.not_true | exact Bool.not_false | exact decide_eq_true (by first | (with_reducible assumption) | omega) | exact decide_eq_false (by first | (with_reducible assumption) | omega) | exact nd_t (by first | (with_reducible assumption) | omega) | exact nd_f (by first | (with_reducible assumption) | omega) | exact nb_t (by first | (with_reducible assumption) | omega) | exact nb_f (by first | (with_reducible assumption) | omega) | (simp only [decide_true, decide_false, Bool.not_true, Bool.not_false, Bool.true_and, Bool.and_true, Bool.false_and, Bool.and_false, Bool.or_true, Bool.true_or, Bool.or_false, Bool.false_or]; done)))))
  | (with_reducible apply ev_and) | (with_reducible apply ev_or) | (with_reducible apply ev_frz) | (with_reducible apply ev_tup) | (with_reducible apply ev_lst) | (with_reducible apply ev_opNF) | (with_reducible apply ev_op2F) | (with_reducible apply ev_callB) | (with_reducible apply ev_starA) | (with_reducible apply ev_permA) | (with_reducible apply ev_app) | (with_reducible apply ev_ext) | (with_reducible apply ev_pop) | (with_reducible apply ev_rem) | (with_reducible apply ev_aPart) | (with_reducible apply ev_sl) | (with_reducible apply ev_ixT) | (with_reducible apply ev_andE) | (with_reducible apply ev_orE) | (with_reducible apply ev_notE) | (with_reducible apply ev_ifE) | (with_reducible apply ev_consMd) | (with_reducible apply ev_consMf) | (with_reducible apply ev_rng1) | (with_reducible apply ev_seqI) | (with_reducible apply ev_lrg1) | (with_reducible apply ev_lrg2) | (with_reducible apply ev_mk)
  | (with_reducible apply dv_addL) | (with_reducible apply dv_addT) | (with_reducible apply dv_cat)
  | (with_reducible exact dv_eqI _ _) | (with_reducible exact dv_neI _ _) | (with_reducible exact dv_eqS _ _) | (with_reducible exact dv_neS _ _)
  | ((with_reducible show eqD _ _ = some _); exact dv_eqS _ _) | ((with_reducible show neD _ _ = some _); exact dv_neS _ _)
  | (with_reducible exact datAll_dsA _ _ _ (by rfl)) | (with_reducible exact datAll_ds _)
  | ((with_reducible show _ ≤ _); sizeOf_list_dec) | ((with_reducible show _ < _); sizeOf_list_dec)
  | ((with_reducible show (_ : Rho) = _); first | (dsimp only [List.set]; done) | exact rfl)
  | ((with_reducible show (_ : Nat) = _); exact rfl)
  | exact (rfl : _ = some _) | exact (rfl : _ = true) | exact (rfl : _ = false)
  | (intro _))
local macro_rules | `(tactic| array_mem_dec) => `(tactic| repeat' first
  | with_reducible assumption
  | (with_reducible exact ev_next) | (with_reducible exact ev_raise0)
  | ((with_reducible apply ev_seqN); (focus (first | ((with_reducible apply ev_asg); (array_get_dec; done)) | ((with_reducible apply ev_asgM); (array_get_dec; done)) | ((with_reducible apply ev_par); (array_get_dec; done)) | ((with_reducible apply ev_drop); (array_get_dec; done)) | ((with_reducible apply ev_aug); (array_get_dec; done)) | ((with_reducible apply ev_put); (array_get_dec; done)) | (with_reducible assumption) | ((with_reducible apply ev_ifS2); (focus ((array_get_dec; done))); (focus ((first | (with_reducible rfl) | (with_reducible assumption) | exact Bool.not_true | exact Bool.not_false | exact decide_eq_true (by first | (with_reducible assumption) | omega) | exact decide_eq_false (by first | (with_reducible assumption) | omega) | exact nd_t (by first | (with_reducible assumption) | omega) | exact nd_f (by first | (with_reducible assumption) | omega) | exact nb_t (by first | (with_reducible assumption) | omega) | exact nb_f (by first | (with_reducible assumption) | omega) | (simp only [decide_true, decide_false, Bool.not_true, Bool.not_false, Bool.true_and, Bool.and_true, Bool.false_and, Bool.and_false, Bool.or_true, Bool.true_or, Bool.or_false, Bool.false_or]; done)))); exact ev_next))); (focus (first | (dsimp only [List.set, setsR]; done) | exact rfl)))
  | ((with_reducible apply ev_seqR); (focus ((with_reducible apply ev_ifS1); (focus ((array_get_dec; done))); (focus ((first | (with_reducible rfl) | (with_reducible assumption) | exact Bool.not_true | exact Bool.not_false | exact decide_eq_true (by first | (with_reducible assumption) | omega) | exact decide_eq_false (by first | (with_reducible assumption) | omega) | exact nd_t (by first | (with_reducible assumption) | omega) | exact nd_f (by first | (with_reducible assumption) | omega) | exact nb_t (by first | (with_reducible assumption) | omega) | exact nb_f (by first | (with_reducible assumption) | omega) | (simp only [decide_true, decide_false, Bool.not_true, Bool.not_false, Bool.true_and, Bool.and_true, Bool.false_and, Bool.and_false, Bool.or_true, Bool.true_or, Bool.or_false, Bool.false_or]; done)))); ((with_reducible apply ev_ret); (array_get_dec; done)))))
  | ((with_reducible apply ev_seqX); (focus ((with_reducible apply ev_ifS1); (focus ((array_get_dec; done))); (focus ((first | (with_reducible rfl) | (with_reducible assumption) | exact Bool.not_true | exact Bool.not_false | exact decide_eq_true (by first | (with_reducible assumption) | omega) | exact decide_eq_false (by first | (with_reducible assumption) | omega) | exact nd_t (by first | (with_reducible assumption) | omega) | exact nd_f (by first | (with_reducible assumption) | omega) | exact nb_t (by first | (with_reducible assumption) | omega) | exact nb_f (by first | (with_reducible assumption) | omega) | (simp only [decide_true, decide_false, Bool.not_true, Bool.not_false, Bool.true_and, Bool.and_true, Bool.false_and, Bool.and_false, Bool.or_true, Bool.true_or, Bool.or_false, Bool.false_or]; done)))); (first | exact ev_raise0 | ((with_reducible apply ev_raise); (array_get_dec; done))))))
  | ((with_reducible apply ev_seqN); (focus ((with_reducible apply ev_ifS1); (focus ((array_get_dec; done))); (focus ((first | (with_reducible rfl) | (with_reducible assumption) | exact Bool.not_true | exact Bool.not_false | exact decide_eq_true (by first | (with_reducible assumption) | omega) | exact decide_eq_false (by first | (with_reducible assumption) | omega) | exact nd_t (by first | (with_reducible assumption) | omega) | exact nd_f (by first | (with_reducible assumption) | omega) | exact nb_t (by first | (with_reducible assumption) | omega) | exact nb_f (by first | (with_reducible assumption) | omega) | (simp only [decide_true, decide_false, Bool.not_true, Bool.not_false, Bool.true_and, Bool.and_true, Bool.false_and, Bool.and_false, Bool.or_true, Bool.true_or, Bool.or_false, Bool.false_or]; done)))); (array_mem_dec; done))); (focus (first | (dsimp only [List.set, setsR]; done) | exact rfl)))
  | ((with_reducible apply ev_ifS1); (focus ((array_get_dec; done))); (focus ((first | (with_reducible rfl) | (with_reducible assumption) | exact Bool.not_true | exact Bool.not_false | exact decide_eq_true (by first | (with_reducible assumption) | omega) | exact decide_eq_false (by first | (with_reducible assumption) | omega) | exact nd_t (by first | (with_reducible assumption) | omega) | exact nd_f (by first | (with_reducible assumption) | omega) | exact nb_t (by first | (with_reducible assumption) | omega) | exact nb_f (by first | (with_reducible assumption) | omega) | (simp only [decide_true, decide_false, Bool.not_true, Bool.not_false, Bool.true_and, Bool.and_true, Bool.false_and, Bool.and_false, Bool.or_true, Bool.true_or, Bool.or_false, Bool.false_or]; done))))) | ((with_reducible apply ev_ifS2); (focus ((array_get_dec; done))); (focus ((first | (with_reducible rfl) | (with_reducible assumption) | exact Bool.not_true | exact Bool.not_false | exact decide_eq_true (by first | (with_reducible assumption) | omega) | exact decide_eq_false (by first | (with_reducible assumption) | omega) | exact nd_t (by first | (with_reducible assumption) | omega) | exact nd_f (by first | (with_reducible assumption) | omega) | exact nb_t (by first | (with_reducible assumption) | omega) | exact nb_f (by first | (with_reducible assumption) | omega) | (simp only [decide_true, decide_false, Bool.not_true, Bool.not_false, Bool.true_and, Bool.and_true, Bool.false_and, Bool.and_false, Bool.or_true, Bool.true_or, Bool.or_false, Bool.false_or]; done)))))
  | ((with_reducible apply ev_ret); (array_get_dec; done)) | ((with_reducible apply ev_retF); (array_get_dec; done)) | ((with_reducible apply ev_asg); (array_get_dec; done)) | ((with_reducible apply ev_asgM); (array_get_dec; done)) | ((with_reducible apply ev_par); (array_get_dec; done)) | ((with_reducible apply ev_drop); (array_get_dec; done)) | ((with_reducible apply ev_aug); (array_get_dec; done)) | ((with_reducible apply ev_put); (array_get_dec; done)) | ((with_reducible apply ev_raise); (array_get_dec; done)))
theorem cells_ok {ns : List Int} (h : ns.length ≤ 63) : ∃ ms : List Int, f_law_cells [.scr ns, .int 3] = .ok (.lst (ms.map D.int)) ∧ 1 ≤ ms.length ∧ ms.length ≤ 3 := by
  have e1 : cutL (ns.map D.int) none (some 3) = (ns.take 3).map D.int := by rw [show (3 : Int) = ((3 : Nat) : Int) from rfl, cutL_to, List.map_take]
  have e2 : cutL (ns.map D.int) (some 3) (some 63) = (ns.drop 3).map D.int := by rw [show (3 : Int) = ((3 : Nat) : Int) from rfl, show (63 : Int) = ((63 : Nat) : Int) from rfl, cutL_ft, List.take_of_length_le (by rw [List.length_map]; exact h), List.map_drop]
  by_cases h0 : ns = []
  · subst h0
    exact ⟨[0], by rfl, by decide, by decide⟩
  · by_cases hl : ns.length ≤ 3
    · rw [List.drop_eq_nil_of_le hl, List.map_nil] at e2
      rw [List.take_of_length_le hl] at e1
      refine ⟨ns, ?_, List.length_pos_iff.2 h0, hl⟩
      have e6 : loopS (turnS m_law_cells_g1 m_law_cells_b1) [] [.d (.scr ns), .d (.int 3), .m (ns.map D.int), .no, .no, .no] = .nx _ := rfl
      simp [f_law_cells, m_law_cells, m_law_cells_l1, Lq.runF, Lq.runB, Lq.runL, Lq.boxAt, Lq.startR, Lq.seqS, Lq.nextS, Lq.ifS, Lq.asgS, Lq.asgM, Lq.asgG, Lq.retS, Lq.retF, Lq.dropS, Lq.forS, Lq.putItem, Lq.isMB, Lq.putS1, Lq.parS, Lq.consMd, Lq.consMf', Lq.noErr, Lq.nilM, Lq.setsR, Lq.nameE, Lq.constE, Lq.op1E, Lq.op2E, Lq.opNE, Lq.opNF, Lq.op2F, Lq.lift1, Lq.lift2, Lq.liftN, Lq.res, Lq.resAll, Lq.valT, Lq.notT, Lq.andT, Lq.orT, Lq.andE, Lq.orE, Lq.notE, Lq.ifE, Lq.consA, Lq.nilA, Lq.frzE, Lq.lstF, Lq.tupE, Lq.callE, Lq.callBE, Lq.callL, Lq.callNew, Lq.slotted, Lq.datAll, Lq.appE, Lq.popE, Lq.compF, Lq.yesT, Lq.wipeR, Lq.backR, Lq.plainC, Lq.nameG, Lq.tupG, Lq.consG, Lq.nilG, Lq.seqI, Lq.rngI1, Lq.rngI2, Lq.enumI, Lq.zipI, Lq.isiE, Lq.slE, Lq.aPart, Lq.noPart, Lq.chainE, Lq.strM, Lq.orF, Lq.R.bind, Lq.R.thnO, Lq.raiseS, Lq.raise0S, Lq.tryS, Lq.hNil, Lq.hAs, Lq.goneS, Lq.enumA, Lq.enumK, Lq.ifF, Lq.permA, Lq.permL, Lq.D.noL, Lq.noLs, Lq.isEx, Lq.fldD, Lq.isErrD, Lq.itemsOf, Lq.onlyB, Lq.isB, Lq.D.flat, Lq.starA, Lq.extE, Lq.augS, Lq.ixTE, Lq.mvS, Lq.dfA, Lq.slotD, Lq.propD, Lq.mkE, Lq.mkE0, Lq.addD, Lq.catF, Lq.subD, Lq.mulD, Lq.fdivD, Lq.modD, Lq.powD, Lq.negD, Lq.ltD, Lq.leD, Lq.gtD, Lq.geD, Lq.eqD, Lq.neD, Lq.sameKind, Lq.isD, Lq.isntD, Lq.isNon, Lq.inD, Lq.ninD, Lq.anyEq, Lq.lenD, Lq.atD, Lq.cutD, Lq.revD, Lq.splitD, Lq.joinD, Lq.tupleD, Lq.tupleTD, Lq.listF, Lq.allD, Lq.anyD, Lq.sumD, Lq.absD, Lq.min2D, Lq.max2D, Lq.intD, Lq.strD, Lq.sortedF, Lq.isiB, Lq.tyName, Lq.notObj, Lq.D.items?, Lq.fits, L2.atI, L2.ixN, e1, e2, enumD, e6, h0]
    · obtain ⟨ms', c3, c4, c5, hm, e⟩ := cells_loop (ns := ns) (ns.drop 3) 0 (ns.take 3) .no .no .no (by rw [List.length_take]; omega) (by rw [List.length_drop]; omega)
      refine ⟨ms', ?_, by omega, by omega⟩
      simp only [List.map_drop, List.map_take] at e e1 e2
      simp [f_law_cells, m_law_cells, m_law_cells_l1, Lq.runF, Lq.runB, Lq.runL, Lq.boxAt, Lq.startR, Lq.seqS, Lq.nextS, Lq.ifS, Lq.asgS, Lq.asgM, Lq.asgG, Lq.retS, Lq.retF, Lq.dropS, Lq.forS, Lq.putItem, Lq.isMB, Lq.putS1, Lq.parS, Lq.consMd, Lq.consMf', Lq.noErr, Lq.nilM, Lq.setsR, Lq.nameE, Lq.constE, Lq.op1E, Lq.op2E, Lq.opNE, Lq.opNF, Lq.op2F, Lq.lift1, Lq.lift2, Lq.liftN, Lq.res, Lq.resAll, Lq.valT, Lq.notT, Lq.andT, Lq.orT, Lq.andE, Lq.orE, Lq.notE, Lq.ifE, Lq.consA, Lq.nilA, Lq.frzE, Lq.lstF, Lq.tupE, Lq.callE, Lq.callBE, Lq.callL, Lq.callNew, Lq.slotted, Lq.datAll, Lq.appE, Lq.popE, Lq.compF, Lq.yesT, Lq.wipeR, Lq.backR, Lq.plainC, Lq.nameG, Lq.tupG, Lq.consG, Lq.nilG, Lq.seqI, Lq.rngI1, Lq.rngI2, Lq.enumI, Lq.zipI, Lq.isiE, Lq.slE, Lq.aPart, Lq.noPart, Lq.chainE, Lq.strM, Lq.orF, Lq.R.bind, Lq.R.thnO, Lq.raiseS, Lq.raise0S, Lq.tryS, Lq.hNil, Lq.hAs, Lq.goneS, Lq.enumA, Lq.enumK, Lq.ifF, Lq.permA, Lq.permL, Lq.D.noL, Lq.noLs, Lq.isEx, Lq.fldD, Lq.isErrD, Lq.itemsOf, Lq.onlyB, Lq.isB, Lq.D.flat, Lq.starA, Lq.extE, Lq.augS, Lq.ixTE, Lq.mvS, Lq.dfA, Lq.slotD, Lq.propD, Lq.mkE, Lq.mkE0, Lq.addD, Lq.catF, Lq.subD, Lq.mulD, Lq.fdivD, Lq.modD, Lq.powD, Lq.negD, Lq.ltD, Lq.leD, Lq.gtD, Lq.geD, Lq.eqD, Lq.neD, Lq.sameKind, Lq.isD, Lq.isntD, Lq.isNon, Lq.inD, Lq.ninD, Lq.anyEq, Lq.lenD, Lq.atD, Lq.cutD, Lq.revD, Lq.splitD, Lq.joinD, Lq.tupleD, Lq.tupleTD, Lq.listF, Lq.allD, Lq.anyD, Lq.sumD, Lq.absD, Lq.min2D, Lq.max2D, Lq.intD, Lq.strD, Lq.sortedF, Lq.isiB, Lq.tyName, Lq.notObj, Lq.D.items?, Lq.fits, L2.atI, L2.ixN, e1, e2, enumD, h0, e]
def frameR (ns ms : List Int) : Rho := [.d (.scr ns), .d (.lst (ms.map D.int)), .no]
theorem frame_turn (hr : ∀ ns, Bx 0 ns → ∃ ns', f_law_right ns [] = some (.bl true, ns')) {ns ms : List Int} {k : Nat} {acc : List D} (hk : k < ms.length) (e3 : ms.length ≤ 3) (hf : fits (acc.length + 1) = true) :
    ∃ ρ1, Lq.compTurn (nameG 2) yesT m_law_e1 acc (.int k) (frameR ns ms) = .ok (acc ++ [.bl true]) ρ1 ∧ wipeR ρ1 [2] = frameR ns ms := by
  obtain ⟨b0, b1, eb, hb⟩ := box_ok hk e3
  obtain ⟨ns', er⟩ := hr _ hb
  refine ⟨[.d (.scr ns), .d (.lst (ms.map D.int)), .d (.int k)], ?_, by simp [wipeR, frameR]⟩
  simp [Lq.runF, Lq.runB, Lq.runL, Lq.boxAt, Lq.startR, Lq.seqS, Lq.nextS, Lq.ifS, Lq.asgS, Lq.asgM, Lq.asgG, Lq.retS, Lq.retF, Lq.dropS, Lq.forS, Lq.loopS, Lq.turnS, Lq.putItem, Lq.isMB, Lq.putS1, Lq.parS, Lq.consMd, Lq.consMf', Lq.noErr, Lq.nilM, Lq.setsR, Lq.nameE, Lq.constE, Lq.op1E, Lq.op2E, Lq.opNE, Lq.opNF, Lq.op2F, Lq.lift1, Lq.lift2, Lq.liftN, Lq.res, Lq.resAll, Lq.valT, Lq.notT, Lq.andT, Lq.orT, Lq.andE, Lq.orE, Lq.notE, Lq.ifE, Lq.consA, Lq.nilA, Lq.frzE, Lq.lstF, Lq.tupE, Lq.callE, Lq.callBE, Lq.callL, Lq.callNew, Lq.slotted, Lq.datAll, Lq.appE, Lq.popE, Lq.compF, Lq.compLoop, Lq.compTurn, Lq.yesT, Lq.wipeR, Lq.backR, Lq.plainC, Lq.nameG, Lq.tupG, Lq.consG, Lq.nilG, Lq.seqI, Lq.rngI1, Lq.rngI2, Lq.enumI, Lq.zipI, Lq.isiE, Lq.slE, Lq.aPart, Lq.noPart, Lq.chainE, Lq.strM, Lq.orF, Lq.R.bind, Lq.R.thnO, Lq.raiseS, Lq.raise0S, Lq.tryS, Lq.hNil, Lq.hAs, Lq.goneS, Lq.enumA, Lq.enumK, Lq.ifF, Lq.permA, Lq.permL, Lq.D.noL, Lq.noLs, Lq.isEx, Lq.fldD, Lq.isErrD, Lq.itemsOf, Lq.onlyB, Lq.isB, Lq.D.flat, Lq.starA, Lq.extE, Lq.augS, Lq.ixTE, Lq.mvS, Lq.dfA, Lq.slotD, Lq.propD, Lq.mkE, Lq.mkE0, frameR, m_law_e1, eb, er, allOf, D.int?, hf]
theorem frame_all (hr : ∀ ns, Bx 0 ns → ∃ ns', f_law_right ns [] = some (.bl true, ns')) {ns ms : List Int} (e3 : ms.length ≤ 3) :
    Lq.compLoop [2] (nameG 2) yesT m_law_e1 [] (rng 0 ms.length) (frameR ns ms) = .ok (List.replicate ms.length (.bl true)) (frameR ns ms) := by
  have hl : (rng 0 ms.length).length = ms.length := by unfold rng; rw [List.length_map, List.length_range]
  obtain ⟨ρ', ec, hi⟩ := comp_inv (vs := [2]) (gd := nameG 2) (ft := yesT) (fe := m_law_e1) (fun _ ρ => ρ = frameR ns ms) (D.bl true) 3 (rng 0 ms.length) [] 0 (frameR ns ms) rfl (fun d hd k ρ acc hi _ hf => by
    subst hi
    obtain ⟨k, hk, rfl⟩ := rng_mem hd
    exact frame_turn hr hk e3 hf) (by rw [hl, List.length_nil]; omega) (by rw [hl]; omega)
  rw [List.nil_append, rng_true, hi] at ec
  exact ec
theorem frame_rng {ns ms : List Int} (e3 : ms.length ≤ 3) : rngI1 (consA (opNE lenD (consA (nameE 1) nilA)) nilA) (frameR ns ms) = .ok (rng 0 ms.length) (frameR ns ms) := by
  have er : okR (ms.length : Int) = true := okR_small (by omega) (by omega)
  simp [frameR, Lq.rngI1, Lq.consA, Lq.nilA, Lq.opNE, Lq.nameE, Lq.R.bind, Lq.liftN, Lq.resAll, Lq.res, Lq.lenD, er]
theorem frame_comp (hr : ∀ ns, Bx 0 ns → ∃ ns', f_law_right ns [] = some (.bl true, ns')) {ns ms : List Int} (e3 : ms.length ≤ 3) :
    Lq.compF [2] (rngI1 (consA (opNE lenD (consA (nameE 1) nilA)) nilA)) (nameG 2) yesT m_law_e1 (frameR ns ms) = .ok (List.replicate ms.length (.bl true)) (frameR ns ms) := by
  have ew : wipeR (frameR ns ms) [2] = frameR ns ms := rfl
  have ep : ([2] : List Nat).all (fun v => plainC ((frameR ns ms).getD v .no)) = true := rfl
  have eb : backR (frameR ns ms) (frameR ns ms) [2] = frameR ns ms := rfl
  simp only [Lq.compF, frame_rng e3, Lq.R.bind, ep, ew, frame_all hr e3, eb, if_true]
end Lw
namespace Lw
open PySem Lq
local macro_rules | `(tactic| sizeOf_list_dec) => `(tactic| first | omega | (simp only [List.length_append, List.length_map, List.length_cons, List.length_nil, List.length_take, List.length_drop, List.length_reverse, List.length_set, List.length_replicate, List.length_singleton, List.length_range]; omega) | (simp; omega))
local macro_rules | `(tactic| array_get_dec) => `(tactic| repeat' first
  | with_reducible assumption
  | (with_reducible exact ev_const) | (with_reducible exact ev_nilA) | (with_reducible exact ev_nilM) | (with_reducible exact ev_noPart) | (with_reducible exact ev_dfA) | (with_reducible exact ev_mk0)
  | ((with_reducible apply ev_name); (exact rfl)) | ((with_reducible apply ev_nameM); (exact rfl)) | ((with_reducible apply ev_nameB); (exact rfl))
  | (with_reducible apply ev_consA) | (with_reducible apply ev_op2) | (with_reducible apply ev_op1) | (with_reducible apply ev_opN) | (with_reducible apply ev_call) | (with_reducible apply ev_val) | (with_reducible apply ev_notT)
  | ((with_reducible apply ev_and1); (focus ((array_get_dec; done))); (focus ((first | (with_reducible rfl) | (with_reducible assumption) | exact Bool.not_true | exact Bool.not_false | exact decide_eq_true (by first | (with_reducible assumption) | omega) | exact decide_eq_false (by first | (with_reducible assumption) | omega) | exact nd_t (by first | (with_reducible assumption) | omega) | exact nd_f (by first | (with_reducible assumption) | omega) | exact nb_t (by first | (with_reducible assumption) | omega) | exact nb_f (by first | (with_reducible assumption) | omega) | (simp only [decide_true, decide_false, Bool.not_true, Bool.not_false, Bool.true_and, Bool.and_true, Bool.false_and, Bool.and_false, Bool.or_true, Bool.true_or, Bool.or_false, Bool.false_or]; done))))) | ((with_reducible apply ev_and2); (focus ((array_get_dec; done))); (focus ((first | (with_reducible rfl) | (with_reducible assumption) | exact Bool.not_true | exact Bool.not_false | exact decide_eq_true (by first | (with_reducible assumption) | omega) | exact decide_eq_false (by first | (with_reducible assumption) | omega) | exact nd_t (by first | (with_reducible assumption) | omega) | exact nd_f (by first | (with_reducible assumption) | omega) | exact nb_t (by first | (with_reducible assumption) | omega) | exact nb_f (by first | (with_reducible assumption) | omega) | (simp only [decide_true, decide_false, Bool.not_true, Bool.not_false, Bool.true_and, Bool.and_true, Bool.false_and, Bool.and_false, Bool.or_true, Bool.true_or, Bool.or_false, Bool.false_or]; done))))) | ((with_reducible apply ev_or1); (focus ((array_get_dec; done))); (focus ((first | (with_reducible rfl) | (with_reducible assumption) | exact Bool.not_true | exact Bool.not_false | exact decide_eq_true (by first | (with_reducible assumption) | omega) | exact decide_eq_false (by first | (with_reducible assumption) | omega) | exact nd_t (by first | (with_reducible assumption) | omega) | exact nd_f (by first | (with_reducible assumption) | omega) | exact nb_t (by first | (with_reducible assumption) | omega) | exact nb_f (by first | (with_reducible assumption) | omega) | (simp only [decide_true, decide_false, Bool.not_true, Bool.not_false, Bool.true_and, Bool.and_true, Bool.false_and, Bool.and_false, Bool.or_true, Bool.true_or, Bool.or_false, Bool.false_or]; done))))) | ((with_reducible apply ev_or2); (focus ((array_get_dec; done))); (focus ((first | (with_reducible rfl) | (with_reducible assumption) | exact Bool.not_true | exact Bool.not_false | exact decide_eq_true (by first | (with_reducible assumption) | omega) | exact decide_eq_false (by first | (with_reducible assumption) | omega) | exact nd_t (by first | (with_reducible assumption) | omega) | exact nd_f (by first | (with_reducible assumption) | omega) | exact nb_t (by first | (with_reducible assumption) | omega) | exact nb_f (by first | (with_reducible assumption) | omega) | (simp only [decide_true, decide_false, Bool.not_true, Bool.not_false, Bool.true_and, Bool.and_true, Bool.false_and, Bool.and_false, Bool.or_true, Bool.true_or, Bool.or_false, Bool.false_or]; done))))) | ((with_reducible apply ev_ifE1); (focus ((array_get_dec; done))); (focus ((first | (with_reducible rfl) | (with_reducible assumption) | exact Bool.not_true | exact Bool.not_false | exact decide_eq_true (by first | (with_reducible assumption) | omega) | exact decide_eq_false (by first | (with_reducible assumption) | omega) | exact nd_t (by first | (with_reducible assumption) | omega) | exact nd_f (by first | (with_reducible assumption) | omega) | exact nb_t (by first | (with_reducible assumption) | omega) | exact nb_f (by first | (with_reducible assumption) | omega) | (simp only [decide_true, decide_false, Bool.not_true, Bool.not_false, Bool.true_and, Bool.and_true, Bool.false_and, Bool.and_false, Bool.or_true, Bool.true_or, Bool.or_false, Bool.false_or]; done))))) | ((with_reducible apply ev_ifE2); (focus ((array_get_dec; done))); (focus ((first | (with_reducible rfl) | (with_reducible assumption) | exact Bool.not_true | exact Bool.not_false | exact decide_eq_true (by first | (with_reducible assumption) | omega) | exact decide_eq_false (by first | (with_reducible assumption) | omega) | exact nd_t (by first | (with_reducible assumption) | omega) | exact nd_f (by first | (with_reducible assumption) | omega) | exact nb_t (by first | (with_reducible assumption) | omega) | exact nb_f (by first | (with_reducible assumption) | omega) | (simp only [decide_true, decide_false, Bool.not_true, Bool.not_false, Bool.true_and, Bool.and_true, Bool.false_and, Bool.and_false, Bool.or_true, Bool.true_or, Bool.or_false, Bool.false_or]; done))))) | ((with_reducible apply ev_ifF1); (focus ((array_get_dec; done))); (focus ((first | (with_reducible rfl) | (with_reducible assumption) | exact Bool.not_true | exact Bool.not_false | exact decide_eq_true (by first | (with_reducible assumption) | omega) | exact decide_eq_false (by first | (with_reducible assumption) | omega) | exact nd_t (by first | (with_reducible assumption) | omega) | exact nd_f (by first | (with_reducible assumption) | omega) | exact nb_t (by first | (with_reducible assumption) | omega) | exact nb_f (by first | (with_reducible assumption) | omega) | (simp only [decide_true, decide_false, Bool.not_true, Bool.not_false, Bool.true_and, Bool.and_true, Bool.false_and, Bool.and_false, Bool.or_true, Bool.true_or, Bool.or_false, Bool.false_or]; done))))) | ((with_reducible apply ev_ifF2); (focus ((array_get_dec; done))); (focus ((first | (with_reducible rfl) | (with_reducible assumption) | exact Bool.not_true | exact Bool.not_false | exact decide_eq_true (by first | (with_reducible assumption) | omega) | exact decide_eq_false (by first | (with_reducible assumption) | omega) | exact nd_t (by first | (with_reducible assumption) | omega) | exact nd_f (by first | (with_reducible assumption) | omega) | exact nb_t (by first | (with_reducible assumption) | omega) | exact nb_f (by first | (with_reducible assumption) | omega) | (simp only [decide_true, decide_false, Bool.not_true, Bool.not_false, Bool.true_and, Bool.and_true, Bool.false_and, Bool.and_false, Bool.or_true, Bool.true_or, Bool.or_false, Bool.false_or]; done)))))
  | (with_reducible apply ev_and) | (with_reducible apply ev_or) | (with_reducible apply ev_frz) | (with_reducible apply ev_tup) | (with_reducible apply ev_lst) | (with_reducible apply ev_opNF) | (with_reducible apply ev_op2F) | (with_reducible apply ev_callB) | (with_reducible apply ev_starA) | (with_reducible apply ev_permA) | (with_reducible apply ev_app) | (with_reducible apply ev_ext) | (with_reducible apply ev_pop) | (with_reducible apply ev_rem) | (with_reducible apply ev_aPart) | (with_reducible apply ev_sl) | (with_reducible apply ev_ixT) | (with_reducible apply ev_andE) | (with_reducible apply ev_orE) | (with_reducible apply ev_notE) | (with_reducible apply ev_ifE) | (with_reducible apply ev_consMd) | (with_reducible apply ev_consMf) | (with_reducible apply ev_rng1) | (with_reducible apply ev_seqI) | (with_reducible apply ev_lrg1) | (with_reducible apply ev_lrg2) | (with_reducible apply ev_mk)
  | (with_reducible apply dv_addL) | (with_reducible apply dv_addT) | (with_reducible apply dv_cat)
  | (with_reducible exact dv_eqI _ _) | (with_reducible exact dv_neI _ _) | (with_reducible exact dv_eqS _ _) | (with_reducible exact dv_neS _ _)
  | ((with_reducible show eqD _ _ = some _); exact dv_eqS _ _) | ((with_reducible show neD _ _ = some _); exact dv_neS _ _)
  | (with_reducible exact datAll_dsA _ _ _ (by rfl)) | (with_reducible exact datAll_ds _)
  | ((with_reducible show _ ≤ _); sizeOf_list_dec) | ((with_reducible show _ < _); sizeOf_list_dec)
  | ((with_reducible show (_ : Rho) = _); first | (dsimp only [List.set]; done) | exact rfl)
  | ((with_reducible show (_ : Nat) = _); exact rfl)
  | exact (rfl : _ = some _) | exact (rfl : _ = true) | exact (rfl : _ = false)
  | (intro _))
local macro_rules | `(tactic| array_mem_dec) => `(tactic| repeat' first
  | with_reducible assumption
  | (with_reducible exact ev_next) | (with_reducible exact ev_raise0)
  | ((with_reducible apply ev_seqN); (focus (first | ((with_reducible apply ev_asg); (array_get_dec; done)) | ((with_reducible apply ev_asgM); (array_get_dec; done)) | ((with_reducible apply ev_par); (array_get_dec; done)) | ((with_reducible apply ev_drop); (array_get_dec; done)) | ((with_reducible apply ev_aug); (array_get_dec; done)) | ((with_reducible apply ev_put); (array_get_dec; done)) | (with_reducible assumption) | ((with_reducible apply ev_ifS2); (focus ((array_get_dec; done))); (focus ((first | (with_reducible rfl) | (with_reducible assumption) | exact Bool.not_true | exact Bool.not_false | exact decide_eq_true (by first | (with_reducible assumption) | omega) | exact decide_eq_false (by first | (with_reducible assumption) | omega) | exact nd_t (by first | (with_reducible assumption) | omega) | exact nd_f (by first | (with_reducible assumption) | omega) | exact nb_t (by first | (with_reducible assumption) | omega) | exact nb_f (by first | (with_reducible assumption) | omega) | (simp only [decide_true, decide_false, Bool.not_true, Bool.not_false, Bool.true_and, Bool.and_true, Bool.false_and, Bool.and_false, Bool.or_true, Bool.true_or, Bool.or_false, Bool.false_or]; done)))); exact ev_next))); (focus (first | (dsimp only [List.set, setsR]; done) | exact rfl)))
  | ((with_reducible apply ev_seqR); (focus ((with_reducible apply ev_ifS1); (focus ((array_get_dec; done))); (focus ((first | (with_reducible rfl) | (with_reducible assumption) | exact Bool.not_true | exact Bool.not_false | exact decide_eq_true (by first | (with_reducible assumption) | omega) | exact decide_eq_false (by first | (with_reducible assumption) | omega) | exact nd_t (by first | (with_reducible assumption) | omega) | exact nd_f (by first | (with_reducible assumption) | omega) | exact nb_t (by first | (with_reducible assumption) | omega) | exact nb_f (by first | (with_reducible assumption) | omega) | (simp only [decide_true, decide_false, Bool.not_true, Bool.not_false, Bool.true_and, Bool.and_true, Bool.false_and, Bool.and_false, Bool.or_true, Bool.true_or, Bool.or_false, Bool.false_or]; done)))); ((with_reducible apply ev_ret); (array_get_dec; done)))))
  | ((with_reducible apply ev_seqX); (focus ((with_reducible apply ev_ifS1); (focus ((array_get_dec; done))); (focus ((first | (with_reducible rfl) | (with_reducible assumption) | exact Bool.not_true | exact Bool.not_false | exact decide_eq_true (by first | (with_reducible assumption) | omega) | exact decide_eq_false (by first | (with_reducible assumption) | omega) | exact nd_t (by first | (with_reducible assumption) | omega) | exact nd_f (by first | (with_reducible assumption) | omega) | exact nb_t (by first | (with_reducible assumption) | omega) | exact nb_f (by first | (with_reducible assumption) | omega) | (simp only [decide_true, decide_false, Bool.not_true, Bool.not_false, Bool.true_and, Bool.and_true, Bool.false_and, Bool.and_false, Bool.or_true, Bool.true_or, Bool.or_false, Bool.false_or]; done)))); (first | exact ev_raise0 | ((with_reducible apply ev_raise); (array_get_dec; done))))))
  | ((with_reducible apply ev_seqN); (focus ((with_reducible apply ev_ifS1); (focus ((array_get_dec; done))); (focus ((first | (with_reducible rfl) | (with_reducible assumption) | exact Bool.not_true | exact Bool.not_false | exact decide_eq_true (by first | (with_reducible assumption) | omega) | exact decide_eq_false (by first | (with_reducible assumption) | omega) | exact nd_t (by first | (with_reducible assumption) | omega) | exact nd_f (by first | (with_reducible assumption) | omega) | exact nb_t (by first | (with_reducible assumption) | omega) | exact nb_f (by first | (with_reducible assumption) | omega) | (simp only [decide_true, decide_false, Bool.not_true, Bool.not_false, Bool.true_and, Bool.and_true, Bool.false_and, Bool.and_false, Bool.or_true, Bool.true_or, Bool.or_false, Bool.false_or]; done)))); (array_mem_dec; done))); (focus (first | (dsimp only [List.set, setsR]; done) | exact rfl)))
  | ((with_reducible apply ev_ifS1); (focus ((array_get_dec; done))); (focus ((first | (with_reducible rfl) | (with_reducible assumption) | exact Bool.not_true | exact Bool.not_false | exact decide_eq_true (by first | (with_reducible assumption) | omega) | exact decide_eq_false (by first | (with_reducible assumption) | omega) | exact nd_t (by first | (with_reducible assumption) | omega) | exact nd_f (by first | (with_reducible assumption) | omega) | exact nb_t (by first | (with_reducible assumption) | omega) | exact nb_f (by first | (with_reducible assumption) | omega) | (simp only [decide_true, decide_false, Bool.not_true, Bool.not_false, Bool.true_and, Bool.and_true, Bool.false_and, Bool.and_false, Bool.or_true, Bool.true_or, Bool.or_false, Bool.false_or]; done))))) | ((with_reducible apply ev_ifS2); (focus ((array_get_dec; done))); (focus ((first | (with_reducible rfl) | (with_reducible assumption) | exact Bool.not_true | exact Bool.not_false | exact decide_eq_true (by first | (with_reducible assumption) | omega) | exact decide_eq_false (by first | (with_reducible assumption) | omega) | exact nd_t (by first | (with_reducible assumption) | omega) | exact nd_f (by first | (with_reducible assumption) | omega) | exact nb_t (by first | (with_reducible assumption) | omega) | exact nb_f (by first | (with_reducible assumption) | omega) | (simp only [decide_true, decide_false, Bool.not_true, Bool.not_false, Bool.true_and, Bool.and_true, Bool.false_and, Bool.and_false, Bool.or_true, Bool.true_or, Bool.or_false, Bool.false_or]; done)))))
  | ((with_reducible apply ev_ret); (array_get_dec; done)) | ((with_reducible apply ev_retF); (array_get_dec; done)) | ((with_reducible apply ev_asg); (array_get_dec; done)) | ((with_reducible apply ev_asgM); (array_get_dec; done)) | ((with_reducible apply ev_par); (array_get_dec; done)) | ((with_reducible apply ev_drop); (array_get_dec; done)) | ((with_reducible apply ev_aug); (array_get_dec; done)) | ((with_reducible apply ev_put); (array_get_dec; done)) | ((with_reducible apply ev_raise); (array_get_dec; done)))
/-! ### rounds of `_law_right`: a loop over range(n) whose turns end well -/
theorem rounds_loop {body : D → Rho → O} {m : Nat} (P : List Cell → Prop) (hh : ∀ {k : Nat} {ns : List Int} {cs : List Cell} (d : D), P cs → Bx k ns → k < 1000000 → ∃ ns' cs', body d (.b ns :: cs) = .nx (.b ns' :: cs') ∧ P cs' ∧ Bx (k + m) ns') : ∀ (ds : List D) (k : Nat) (ns : List Int) (cs : List Cell), P cs → Bx k ns → k + m * ds.length < 1000000 → ∃ ns' cs', loopS body ds (.b ns :: cs) = .nx (.b ns' :: cs')
  | [], k, ns, cs, _, _, _ => ⟨ns, cs, rfl⟩
  | d :: ds, k, ns, cs, hP, hb, hk => by
    rw [List.length_cons, Nat.mul_succ] at hk
    obtain ⟨ns1, cs1, e, hP1, hb1⟩ := hh d hP hb (by omega)
    obtain ⟨ns2, cs2, e2⟩ := rounds_loop P hh ds (k + m) ns1 cs1 hP1 hb1 (by omega)
    exact ⟨ns2, cs2, by rw [loopS, e]; exact e2⟩
end Lw
namespace Lw
open PySem Lq
local macro_rules | `(tactic| sizeOf_list_dec) => `(tactic| first | omega | (simp only [List.length_append, List.length_map, List.length_cons, List.length_nil, List.length_take, List.length_drop, List.length_reverse, List.length_set, List.length_replicate, List.length_singleton, List.length_range]; omega) | (simp; omega))
local macro_rules | `(tactic| array_get_dec) => `(tactic| repeat' first
  | with_reducible assumption
  | (with_reducible exact ev_const) | (with_reducible exact ev_nilA) | (with_reducible exact ev_nilM) | (with_reducible exact ev_noPart) | (with_reducible exact ev_dfA) | (with_reducible exact ev_mk0)
  | ((with_reducible apply ev_name); (exact rfl)) | ((with_reducible apply ev_nameM); (exact rfl)) | ((with_reducible apply ev_nameB); (exact rfl))
  | (with_reducible apply ev_consA) | (with_reducible apply ev_op2) | (with_reducible apply ev_op1) | (with_reducible apply ev_opN) | (with_reducible apply ev_call) | (with_reducible apply ev_val) | (with_reducible apply ev_notT)
  | ((with_reducible apply ev_and1); (focus ((array_get_dec; done))); (focus ((first | (with_reducible rfl) | (with_reducible assumption) | exact Bool.not_true | exact Bool.not_false | exact decide_eq_true (by first | (with_reducible assumption) | omega) | exact decide_eq_false (by first | (with_reducible assumption) | omega) | exact nd_t (by first | (with_reducible assumption) | omega) | exact nd_f (by first | (with_reducible assumption) | omega) | exact nb_t (by first | (with_reducible assumption) | omega) | exact nb_f (by first | (with_reducible assumption) | omega) | (simp only [decide_true, decide_false, Bool.not_true, Bool.not_false, Bool.true_and, Bool.and_true, Bool.false_and, Bool.and_false, Bool.or_true, Bool.true_or, Bool.or_false, Bool.false_or]; done))))) | ((with_reducible apply ev_and2); (focus ((array_get_dec; done))); (focus ((first | (with_reducible rfl) | (with_reducible assumption) | exact Bool.not_true | exact Bool.not_false | exact decide_eq_true (by first | (with_reducible assumption) | omega) | exact decide_eq_false (by first | (with_reducible assumption) | omega) | exact nd_t (by first | (with_reducible assumption) | omega) | exact nd_f (by first | (with_reducible assumption) | omega) | exact nb_t (by first | (with_reducible assumption) | omega) | exact nb_f (by first | (with_reducible assumption) | omega) | (simp only [decide_true, decide_false, Bool.not_true, Bool.not_false, Bool.true_and, Bool.and_true, Bool.false_and, Bool.and_false, Bool.or_true, Bool.true_or, Bool.or_false, Bool.false_or]; done))))) | ((with_reducible apply ev_or1); (focus ((array_get_dec; done))); (focus ((first | (with_reducible rfl) | (with_reducible assumption) | exact Bool.not_true | exact Bool.not_false | exact decide_eq_true (by first | (with_reducible assumption) | omega) | exact decide_eq_false (by first | (with_reducible assumption) | omega) | exact nd_t (by first | (with_reducible assumption) | omega) | exact nd_f (by first | (with_reducible assumption) | omega) | exact nb_t (by first | (with_reducible assumption) | omega) | exact nb_f (by first | (with_reducible assumption) | omega) | (simp only [decide_true, decide_false, Bool.not_true, Bool.not_false, Bool.true_and, Bool.and_true, Bool.false_and, Bool.and_false, Bool.or_true, Bool.true_or, Bool.or_false, Bool.false_or]; done))))) | ((with_reducible apply ev_or2); (focus ((array_get_dec; done))); (focus ((first | (with_reducible rfl) | (with_reducible assumption) | exact Bool.not_true | exact Bool.not_false | exact decide_eq_true (by first | (with_reducible assumption) | omega) | exact decide_eq_false (by first | (with_reducible assumption) | omega) | exact nd_t (by first | (with_reducible assumption) | omega) | exact nd_f (by first | (with_reducible assumption) | omega) | exact nb_t (by first | (with_reducible assumption) | omega) | exact nb_f (by first | (with_reducible assumption) | omega) | (simp only [decide_true, decide_false, Bool.not_true, Bool.not_false, Bool.true_and, Bool.and_true, Bool.false_and, Bool.and_false, Bool.or_true, Bool.true_or, Bool.or_false, Bool.false_or]; done))))) | ((with_reducible apply ev_ifE1); (focus ((array_get_dec; done))); (focus ((first | (with_reducible rfl) | (with_reducible assumption) | exact Bool.not_true | exact Bool.not_false | exact decide_eq_true (by first | (with_reducible assumption) | omega) | exact decide_eq_false (by first | (with_reducible assumption) | omega) | exact nd_t (by first | (with_reducible assumption) | omega) | exact nd_f (by first | (with_reducible assumption) | omega) | exact nb_t (by first | (with_reducible assumption) | omega) | exact nb_f (by first | (with_reducible assumption) | omega) | (simp only [decide_true, decide_false, Bool.not_true, Bool.not_false, Bool.true_and, Bool.and_true, Bool.false_and, Bool.and_false, Bool.or_true, Bool.true_or, Bool.or_false, Bool.false_or]; done))))) | ((with_reducible apply ev_ifE2); (focus ((array_get_dec; done))); (focus ((first | (with_reducible rfl) | (with_reducible assumption) | exact Bool.not_true | exact Bool.not_false | exact decide_eq_true (by first | (with_reducible assumption) | omega) | exact decide_eq_false (by first | (with_reducible assumption) | omega) | exact nd_t (by first | (with_reducible assumption) | omega) | exact nd_f (by first | (with_reducible assumption) | omega) | exact nb_t (by first | (with_reducible assumption) | omega) | exact nb_f (by first | (with_reducible assumption) | omega) | (simp only [decide_true, decide_false, Bool.not_true, Bool.not_false, Bool.true_and, Bool.and_true, Bool.false_and, Bool.and_false, Bool.or_true, Bool.true_or, Bool.or_false, Bool.false_or]; done))))) | ((with_reducible apply ev_ifF1); (focus ((array_get_dec; done))); (focus ((first | (with_reducible rfl) | (with_reducible assumption) | exact Bool.not_true | exact Bool.not_false | exact decide_eq_true (by first | (with_reducible assumption) | omega) | exact decide_eq_false (by first | (with_reducible assumption) | omega) | exact nd_t (by first | (with_reducible assumption) | omega) | exact nd_f (by first | (with_reducible assumption) | omega) | exact nb_t (by first | (with_reducible assumption) | omega) | exact nb_f (by first | (with_reducible assumption) | omega) | (simp only [decide_true, decide_false, Bool.not_true, Bool.not_false, Bool.true_and, Bool.and_true, Bool.false_and, Bool.and_false, Bool.or_true, Bool.true_or, Bool.or_false, Bool.false_or]; done))))) | ((with_reducible apply ev_ifF2); (focus ((array_get_dec; done))); (focus ((first | (with_reducible rfl) | (with_reducible assumption) | exact Bool.not_true | exact Bool.not_false | exact decide_eq_true (by first | (with_reducible assumption) | omega) | exact decide_eq_false (by first | (with_reducible assumption) | omega) | exact nd_t (by first | (with_reducible assumption) | omega) | exact nd_f (by first | (with_reducible assumption) | omega) | exact nb_t (by first | (with_reducible assumption) | omega) | exact nb_f (by first | (with_reducible assumption) | omega) | (simp only [decide_true, decide_false, Bool.not_true, Bool.not_false, Bool.true_and, Bool.and_true, Bool.false_and, Bool.and_false, Bool.or_true, Bool.true_or, Bool.or_false, Bool.false_or]; done)))))
  | (with_reducible apply ev_and) | (with_reducible apply ev_or) | (with_reducible apply ev_frz) | (with_reducible apply ev_tup) | (with_reducible apply ev_lst) | (with_reducible apply ev_opNF) | (with_reducible apply ev_op2F) | (with_reducible apply ev_callB) | (with_reducible apply ev_starA) | (with_reducible apply ev_permA) | (with_reducible apply ev_app) | (with_reducible apply ev_ext) | (with_reducible apply ev_pop) | (with_reducible apply ev_rem) | (with_reducible apply ev_aPart) | (with_reducible apply ev_sl) | (with_reducible apply ev_ixT) | (with_reducible apply ev_andE) | (with_reducible apply ev_orE) | (with_reducible apply ev_notE) | (with_reducible apply ev_ifE) | (with_reducible apply ev_consMd) | (with_reducible apply ev_consMf) | (with_reducible apply ev_rng1) | (with_reducible apply ev_seqI) | (with_reducible apply ev_lrg1) | (with_reducible apply ev_lrg2) | (with_reducible apply ev_mk)
  | (with_reducible apply dv_addL) | (with_reducible apply dv_addT) | (with_reducible apply dv_cat)
  | (with_reducible exact dv_eqI _ _) | (with_reducible exact dv_neI _ _) | (with_reducible exact dv_eqS _ _) | (with_reducible exact dv_neS _ _)
  | ((with_reducible show eqD _ _ = some _); exact dv_eqS _ _) | ((with_reducible show neD _ _ = some _); exact dv_neS _ _)
  | (with_reducible exact datAll_dsA _ _ _ (by rfl)) | (with_reducible exact datAll_ds _)
  | ((with_reducible show _ ≤ _); sizeOf_list_dec) | ((with_reducible show _ < _); sizeOf_list_dec)
  | ((with_reducible show (_ : Rho) = _); first | (dsimp only [List.set]; done) | exact rfl)
  | ((with_reducible show (_ : Nat) = _); exact rfl)
  | exact (rfl : _ = some _) | exact (rfl : _ = true) | exact (rfl : _ = false)
  | (intro _))
local macro_rules | `(tactic| array_mem_dec) => `(tactic| repeat' first
  | with_reducible assumption
  | (with_reducible exact ev_next) | (with_reducible exact ev_raise0)
  | ((with_reducible apply ev_seqN); (focus (first | ((with_reducible apply ev_asg); (array_get_dec; done)) | ((with_reducible apply ev_asgM); (array_get_dec; done)) | ((with_reducible apply ev_par); (array_get_dec; done)) | ((with_reducible apply ev_drop); (array_get_dec; done)) | ((with_reducible apply ev_aug); (array_get_dec; done)) | ((with_reducible apply ev_put); (array_get_dec; done)) | (with_reducible assumption) | ((with_reducible apply ev_ifS2); (focus ((array_get_dec; done))); (focus ((first | (with_reducible rfl) | (with_reducible assumption) | exact Bool.not_true | exact Bool.not_false | exact decide_eq_true (by first | (with_reducible assumption) | omega) | exact decide_eq_false (by first | (with_reducible assumption) | omega) | exact nd_t (by first | (with_reducible assumption) | omega) | exact nd_f (by first | (with_reducible assumption) | omega) | exact nb_t (by first | (with_reducible assumption) | omega) | exact nb_f (by first | (with_reducible assumption) | omega) | (simp only [decide_true, decide_false, Bool.not_true, Bool.not_false, Bool.true_and, Bool.and_true, Bool.false_and, Bool.and_false, Bool.or_true, Bool.true_or, Bool.or_false, Bool.false_or]; done)))); exact ev_next))); (focus (first | (dsimp only [List.set, setsR]; done) | exact rfl)))
  | ((with_reducible apply ev_seqR); (focus ((with_reducible apply ev_ifS1); (focus ((array_get_dec; done))); (focus ((first | (with_reducible rfl) | (with_reducible assumption) | exact Bool.not_true | exact Bool.not_false | exact decide_eq_true (by first | (with_reducible assumption) | omega) | exact decide_eq_false (by first | (with_reducible assumption) | omega) | exact nd_t (by first | (with_reducible assumption) | omega) | exact nd_f (by first | (with_reducible assumption) | omega) | exact nb_t (by first | (with_reducible assumption) | omega) | exact nb_f (by first | (with_reducible assumption) | omega) | (simp only [decide_true, decide_false, Bool.not_true, Bool.not_false, Bool.true_and, Bool.and_true, Bool.false_and, Bool.and_false, Bool.or_true, Bool.true_or, Bool.or_false, Bool.false_or]; done)))); ((with_reducible apply ev_ret); (array_get_dec; done)))))
  | ((with_reducible apply ev_seqX); (focus ((with_reducible apply ev_ifS1); (focus ((array_get_dec; done))); (focus ((first | (with_reducible rfl) | (with_reducible assumption) | exact Bool.not_true | exact Bool.not_false | exact decide_eq_true (by first | (with_reducible assumption) | omega) | exact decide_eq_false (by first | (with_reducible assumption) | omega) | exact nd_t (by first | (with_reducible assumption) | omega) | exact nd_f (by first | (with_reducible assumption) | omega) | exact nb_t (by first | (with_reducible assumption) | omega) | exact nb_f (by first | (with_reducible assumption) | omega) | (simp only [decide_true, decide_false, Bool.not_true, Bool.not_false, Bool.true_and, Bool.and_true, Bool.false_and, Bool.and_false, Bool.or_true, Bool.true_or, Bool.or_false, Bool.false_or]; done)))); (first | exact ev_raise0 | ((with_reducible apply ev_raise); (array_get_dec; done))))))
  | ((with_reducible apply ev_seqN); (focus ((with_reducible apply ev_ifS1); (focus ((array_get_dec; done))); (focus ((first | (with_reducible rfl) | (with_reducible assumption) | exact Bool.not_true | exact Bool.not_false | exact decide_eq_true (by first | (with_reducible assumption) | omega) | exact decide_eq_false (by first | (with_reducible assumption) | omega) | exact nd_t (by first | (with_reducible assumption) | omega) | exact nd_f (by first | (with_reducible assumption) | omega) | exact nb_t (by first | (with_reducible assumption) | omega) | exact nb_f (by first | (with_reducible assumption) | omega) | (simp only [decide_true, decide_false, Bool.not_true, Bool.not_false, Bool.true_and, Bool.and_true, Bool.false_and, Bool.and_false, Bool.or_true, Bool.true_or, Bool.or_false, Bool.false_or]; done)))); (array_mem_dec; done))); (focus (first | (dsimp only [List.set, setsR]; done) | exact rfl)))
  | ((with_reducible apply ev_ifS1); (focus ((array_get_dec; done))); (focus ((first | (with_reducible rfl) | (with_reducible assumption) | exact Bool.not_true | exact Bool.not_false | exact decide_eq_true (by first | (with_reducible assumption) | omega) | exact decide_eq_false (by first | (with_reducible assumption) | omega) | exact nd_t (by first | (with_reducible assumption) | omega) | exact nd_f (by first | (with_reducible assumption) | omega) | exact nb_t (by first | (with_reducible assumption) | omega) | exact nb_f (by first | (with_reducible assumption) | omega) | (simp only [decide_true, decide_false, Bool.not_true, Bool.not_false, Bool.true_and, Bool.and_true, Bool.false_and, Bool.and_false, Bool.or_true, Bool.true_or, Bool.or_false, Bool.false_or]; done))))) | ((with_reducible apply ev_ifS2); (focus ((array_get_dec; done))); (focus ((first | (with_reducible rfl) | (with_reducible assumption) | exact Bool.not_true | exact Bool.not_false | exact decide_eq_true (by first | (with_reducible assumption) | omega) | exact decide_eq_false (by first | (with_reducible assumption) | omega) | exact nd_t (by first | (with_reducible assumption) | omega) | exact nd_f (by first | (with_reducible assumption) | omega) | exact nb_t (by first | (with_reducible assumption) | omega) | exact nb_f (by first | (with_reducible assumption) | omega) | (simp only [decide_true, decide_false, Bool.not_true, Bool.not_false, Bool.true_and, Bool.and_true, Bool.false_and, Bool.and_false, Bool.or_true, Bool.true_or, Bool.or_false, Bool.false_or]; done)))))
  | ((with_reducible apply ev_ret); (array_get_dec; done)) | ((with_reducible apply ev_retF); (array_get_dec; done)) | ((with_reducible apply ev_asg); (array_get_dec; done)) | ((with_reducible apply ev_asgM); (array_get_dec; done)) | ((with_reducible apply ev_par); (array_get_dec; done)) | ((with_reducible apply ev_drop); (array_get_dec; done)) | ((with_reducible apply ev_aug); (array_get_dec; done)) | ((with_reducible apply ev_put); (array_get_dec; done)) | ((with_reducible apply ev_raise); (array_get_dec; done)))
/-! ### two sets, and the rounds -/
theorem comp_two {vs : List Nat} {fi : Rho → R (List D)} {gd : D → Rho → Option Rho} {fe : Rho → R VD} {ρ ρ0 ρ1 ρ2 ρ3 ρ4 ρ5 : Rho} {a b x y : D} (hi : fi ρ = .ok [a, b] ρ0) (hp : (vs.all fun v => plainC (ρ0.getD v .no)) = true) (g1 : gd a (wipeR ρ0 vs) = some ρ1) (h1 : fe ρ1 = .ok (.d x) ρ2) (g2 : gd b (wipeR ρ2 vs) = some ρ3) (h2 : fe ρ3 = .ok (.d y) ρ4) (hb : backR ρ0 (wipeR ρ4 vs) vs = ρ5) : Lq.compF vs fi gd yesT fe ρ = .ok [x, y] ρ5 := by
  have f1 : fits ([] : List D).length.succ = true := rfl
  have f2 : fits ([x] : List D).length.succ = true := rfl
  have t1 : Lq.compTurn gd yesT fe [] a (wipeR ρ0 vs) = .ok [x] ρ2 := by
    simp only [Lq.compTurn, g1, yesT, R.bind, h1, if_true]; exact if_pos f1
  have t2 : Lq.compTurn gd yesT fe [x] b (wipeR ρ2 vs) = .ok [x, y] ρ4 := by
    simp only [Lq.compTurn, g2, yesT, R.bind, h2, if_true]; exact if_pos f2
  simp only [Lq.compF, hi, R.bind, hp, if_true, Lq.compLoop, t1, t2, hb]
theorem pick_set {k : Nat} {ns : List Int} {L : List Str} {d i : D} {c4 c5 c6 c7 c8 c9 : Cell} (hn : L.Nodup) (hl : L.length ≤ 100) (h4 : plainC c4 = true) (h5 : plainC c5 = true) (h6 : plainC c6 = true) (h7 : plainC c7 = true) (h8 : plainC c8 = true) (h9 : plainC c9 = true) (hb : Bx k ns) (hk : k < 1200000) :
    ∃ (A : List Str) (ns' : List Int), m_law_right_e4 [.b ns, .d d, .d (sT L), .d NM, c4, c5, c6, c7, c8, c9, .d i, .no] = .ok (.d (sT A)) [.b ns', .d d, .d (sT L), .d NM, c4, c5, c6, c7, c8, c9, .d i, .no] ∧ A.Pairwise LtS ∧ A.length ≤ 100 ∧ Bx (k + 1 + L.length) ns' := by
  obtain ⟨r, ns1, e1, r0, r1, hb1⟩ := take_ok hb (n := ((L.length + 1 : Nat) : Int)) (by omega) (by omega) (by omega)
  obtain ⟨ys, ns2, e2, ⟨zs, hp⟩, hy, hb2⟩ := pickT_ok (x := sT L) (xs := L.map D.str) (c := r) rfl hb1 r0 (by rw [List.length_map]; omega) (by omega)
  obtain ⟨vs, hv, hvp⟩ := perm_strs hp
  have hvn : vs.Nodup := hvp.nodup_iff.2 hn
  obtain ⟨A, R, rfl, rfl, rfl⟩ := List.map_eq_append_iff.1 hv.symm
  have hAn : A.Nodup := (List.nodup_append.1 hvn).1
  have hAl : A.length ≤ L.length := by rw [List.length_map, List.length_map] at hy; omega
  refine ⟨sortStrs A, ns2, ?_, sortStrs_up hAn, by rw [sortStrs_len]; omega, hb2.mono (by rw [List.length_map]; omega)⟩
  have l1 : lenD [sT L] = some (.int L.length) := len_of rfl
  have a1 := add_nat L.length
  have s1 := sorted_strs (ws := A) (x := .lst (A.map D.str)) rfl
  have t1 : tupleTD [.lst ((sortStrs A).map D.str)] = some (sT (sortStrs A)) := rfl
  have ho : ∀ ns, onlyB 0 [.b ns, .d d, .d (sT L), .d NM, c4, c5, c6, c7, c8, c9, .d i, .no] = true := fun ns => by
    simp only [onlyB, List.set, List.all_cons, List.all_nil, plain_b h4, plain_b h5, plain_b h6, plain_b h7, plain_b h8, plain_b h9]; rfl
  have o1 := ho ns
  have o2 := ho ns1
  clear ho
  unfold m_law_right_e4
  array_get_dec
theorem turn_ok {k : Nat} {ns : List Int} {cs : List Cell} (d : D) (hP : ∃ c1 c2 c3 c4 c5 c6 c7 c8 c9, cs = [c1, c2, c3, c4, c5, c6, c7, c8, c9, .no, .no] ∧ ∀ c ∈ [c1, c2, c3, c4, c5, c6, c7, c8, c9], plainC c = true) (hb : Bx k ns) (hk : k < 1000000) :
    ∃ ns' cs', turnS (nameG 1) m_law_right_b2 d (.b ns :: cs) = .nx (.b ns' :: cs') ∧ (∃ c1 c2 c3 c4 c5 c6 c7 c8 c9, cs' = [c1, c2, c3, c4, c5, c6, c7, c8, c9, .no, .no] ∧ ∀ c ∈ [c1, c2, c3, c4, c5, c6, c7, c8, c9], plainC c = true) ∧ Bx (k + 100) ns' := by
  obtain ⟨c1, c2, c3, c4, c5, c6, c7, c8, c9, rfl, hc⟩ := hP
  have h2 := hc c2 (by simp)
  have h3 := hc c3 (by simp)
  have h4 := hc c4 (by simp)
  have h5 := hc c5 (by simp)
  have h6 := hc c6 (by simp)
  have h7 := hc c7 (by simp)
  have h8 := hc c8 (by simp)
  have h9 := hc c9 (by simp)
  clear hc
  obtain ⟨r, ns1, e1, g1, hb1⟩ := take_nat hb (n := 12) (by omega) (by omega) (by omega)
  change f_law_take ns [.int 12] = _ at e1
  obtain ⟨L, ns2, e2, hn, hl, hb2⟩ := likes_ok (m := r) hb1 (by omega) (by omega)
  obtain ⟨ns3, a4, a5, a6, e3, f4, f5, f6, hb3⟩ := in_loop (L := L) (d := d) (by omega) h4 h5 h6 h7 h8 h9 hb2 (by omega)
  obtain ⟨A, ns4, e4, uA, lA, hb4⟩ := pick_set (L := L) (d := d) (i := .int 0) hn (by omega) f4 f5 f6 h7 h8 h9 hb3 (by omega)
  obtain ⟨B, ns5, e5, uB, lB, hb5⟩ := pick_set (L := L) (d := d) (i := .int 1) hn (by omega) f4 f5 f6 h7 h8 h9 hb4 (by omega)
  have ec4 : m_law_right_c4 [.b ns3, .d d, .d (sT L), .d NM, a4, a5, a6, c7, c8, c9, .no, .no] = .ok [sT A, sT B] [.b ns5, .d d, .d (sT L), .d NM, a4, a5, a6, c7, c8, c9, .no, .no] :=
    comp_two (vs := [10]) (a := .int 0) (b := .int 1) (ρ0 := [.b ns3, .d d, .d (sT L), .d NM, a4, a5, a6, c7, c8, c9, .no, .no]) rfl rfl rfl e4 rfl e5 rfl
  have x0 : atD (.lst [sT A, sT B]) (.int 0) = some (sT A) := rfl
  have x1 : atD (.lst [sT A, sT B]) (.int 1) = some (sT B) := rfl
  have ec5 : m_law_right_c5 [.b ns5, .d d, .d (sT L), .d NM, a4, a5, a6, .d (.lst [sT A, sT B]), c8, c9, .no, .no] = .ok ((minusS A B).map D.str) [.b ns5, .d d, .d (sT L), .d NM, a4, a5, a6, .d (.lst [sT A, sT B]), c8, c9, .no, .no] := by
    refine comp_t (vs := [5]) (ρ0 := [.b ns5, .d d, .d (sT L), .d NM, a4, a5, a6, .d (.lst [sT A, sT B]), c8, c9, .no, .no]) (l := A) (e := D.str) (p := fun w => !decide (w ∈ B)) (g := D.str) (ev_seqI (x := sT A) (by array_get_dec) rfl) (by simp only [List.all_cons, List.all_nil, List.getD, List.getElem?_cons_succ, List.getElem?_cons_zero, Option.getD_some, f5]; rfl) (by omega) (fun w _ => ⟨[.b ns5, .d d, .d (sT L), .d NM, a4, .d (.str w), a6, .d (.lst [sT A, sT B]), c8, c9, .no, .no], rfl, ?_, fun _ => rfl, rfl⟩) rfl
    unfold m_law_right_t1
    have := nin_strs (x := sT B) (ws := B) rfl w
    array_get_dec
  have ec6 : m_law_right_c6 [.b ns5, .d d, .d (sT L), .d NM, a4, a5, a6, .d (.lst [sT A, sT B]), .d (sT (minusS A B)), c9, .no, .no] = .ok ((minusS B A).map D.str) [.b ns5, .d d, .d (sT L), .d NM, a4, a5, a6, .d (.lst [sT A, sT B]), .d (sT (minusS A B)), c9, .no, .no] := by
    refine comp_t (vs := [5]) (ρ0 := [.b ns5, .d d, .d (sT L), .d NM, a4, a5, a6, .d (.lst [sT A, sT B]), .d (sT (minusS A B)), c9, .no, .no]) (l := B) (e := D.str) (p := fun w => !decide (w ∈ A)) (g := D.str) (ev_seqI (x := sT B) (by array_get_dec) rfl) (by simp only [List.all_cons, List.all_nil, List.getD, List.getElem?_cons_succ, List.getElem?_cons_zero, Option.getD_some, f5]; rfl) (by omega) (fun w _ => ⟨[.b ns5, .d d, .d (sT L), .d NM, a4, .d (.str w), a6, .d (.lst [sT A, sT B]), .d (sT (minusS A B)), c9, .no, .no], rfl, ?_, fun _ => rfl, rfl⟩) rfl
    unfold m_law_right_t2
    have := nin_strs (x := sT A) (ws := A) rfl w
    array_get_dec
  have sc := share_change_ok (x := sT A) (y := .lst (B.map D.str)) rfl rfl (by omega) (by omega) uA uB
  have m1 : (minusS A B).length ≤ 100 := Nat.le_trans (List.length_filter_le _ _) lA
  have m2 : (minusS B A).length ≤ 100 := Nat.le_trans (List.length_filter_le _ _) lB
  have sm := same_ok 8 (.tup [sT (minusS A B), sT (minusS B A)]) (good_cT (good_strs 5 (by omega)) (good_cT (good_strs 5 (by omega)) rfl))
  have t1 : tupleTD [.lst ((minusS A B).map D.str)] = some (sT (minusS A B)) := rfl
  have t2 : tupleTD [.lst ((minusS B A).map D.str)] = some (sT (minusS B A)) := rfl
  have lf : listF [sT B] = some (B.map D.str) := rfl
  have ho : ∀ ns, onlyB 0 [.b ns, .d d, c2, c3, c4, c5, c6, c7, c8, c9, .no, .no] = true := fun ns => by
    simp only [onlyB, List.set, List.all_cons, List.all_nil, plain_b h2, plain_b h3, plain_b h4, plain_b h5, plain_b h6, plain_b h7, plain_b h8, plain_b h9]; rfl
  have o1 := ho ns
  have o2 := ho ns1
  refine ⟨ns5, [.d d, .d (sT L), .d NM, a4, a5, a6, .d (.lst [sT A, sT B]), .d (sT (minusS A B)), .d (sT (minusS B A)), .no, .no], ?_, ⟨_, _, _, _, _, _, _, _, _, rfl, fun c hc => by
    simp only [List.mem_cons, List.not_mem_nil, or_false] at hc
    rcases hc with rfl | rfl | rfl | rfl | rfl | rfl | rfl | rfl | rfl
    · rfl
    · rfl
    · rfl
    · exact f4
    · exact f5
    · exact f6
    · rfl
    · rfl
    · rfl⟩, hb5.mono (by omega)⟩
  refine ev_turn (ρ1 := [.b ns, .d d, c2, c3, c4, c5, c6, c7, c8, c9, .no, .no]) rfl ?_
  clear ho hb hb1 hb2 hb3 hb4 hb5 e4 e5 uA uB hn
  unfold m_law_right_b2
  apply Eq.trans
  · array_mem_dec
  · rfl
theorem right_ok {ns : List Int} (hb : Bx 0 ns) : ∃ ns', f_law_right ns [] = some (.bl true, ns') := by
  obtain ⟨ns', cs, e⟩ := rounds_loop (body := turnS (nameG 1) m_law_right_b2) (m := 100) (fun cs => ∃ c1 c2 c3 c4 c5 c6 c7 c8 c9, cs = [c1, c2, c3, c4, c5, c6, c7, c8, c9, .no, .no] ∧ ∀ c ∈ [c1, c2, c3, c4, c5, c6, c7, c8, c9], plainC c = true) (fun d hP hb hk => turn_ok d hP hb hk) (rng 0 8) 0 ns [.no, .no, .no, .no, .no, .no, .no, .no, .no, .no, .no] ⟨_, _, _, _, _, _, _, _, _, rfl, fun c hc => by simp at hc; subst hc; rfl⟩ hb (by rw [rng_len]; omega)
  have el : m_law_right_l2 [.b ns, .no, .no, .no, .no, .no, .no, .no, .no, .no, .no, .no] = .nx (.b ns' :: cs) := by
    unfold m_law_right_l2
    exact ev_for (ds := rng 0 8) (ρ1 := [.b ns, .no, .no, .no, .no, .no, .no, .no, .no, .no, .no, .no]) (by rfl) e
  refine ⟨ns', ?_⟩
  refine ev_runB [.b ns, .no, .no, .no, .no, .no, .no, .no, .no, .no, .no, .no] ?_
  refine ⟨.b ns' :: cs, ?_, rfl⟩
  unfold m_law_right
  exact ev_seq el (ev_ret ev_const)
end Lw
namespace Lw
open PySem Lq
local macro_rules | `(tactic| sizeOf_list_dec) => `(tactic| first | omega | (simp only [List.length_append, List.length_map, List.length_cons, List.length_nil, List.length_take, List.length_drop, List.length_reverse, List.length_set, List.length_replicate, List.length_singleton, List.length_range]; omega) | (simp; omega))
local macro_rules | `(tactic| array_get_dec) => `(tactic| repeat' first
  | with_reducible assumption
  | (with_reducible exact ev_const) | (with_reducible exact ev_nilA) | (with_reducible exact ev_nilM) | (with_reducible exact ev_noPart) | (with_reducible exact ev_dfA) | (with_reducible exact ev_mk0)
  | ((with_reducible apply ev_name); (exact rfl)) | ((with_reducible apply ev_nameM); (exact rfl)) | ((with_reducible apply ev_nameB); (exact rfl))
  | (with_reducible apply ev_consA) | (with_reducible apply ev_op2) | (with_reducible apply ev_op1) | (with_reducible apply ev_opN) | (with_reducible apply ev_call) | (with_reducible apply ev_val) | (with_reducible apply ev_notT)
  | ((with_reducible apply ev_and1); (focus ((array_get_dec; done))); (focus ((first | (with_reducible rfl) | (with_reducible assumption) | exact Bool.not_true | exact Bool.not_false | exact decide_eq_true (by first | (with_reducible assumption) | omega) | exact decide_eq_false (by first | (with_reducible assumption) | omega) | exact nd_t (by first | (with_reducible assumption) | omega) | exact nd_f (by first | (with_reducible assumption) | omega) | exact nb_t (by first | (with_reducible assumption) | omega) | exact nb_f (by first | (with_reducible assumption) | omega) | (simp only [decide_true, decide_false, Bool.not_true, Bool.not_false, Bool.true_and, Bool.and_true, Bool.false_and, Bool.and_false, Bool.or_true, Bool.true_or, Bool.or_false, Bool.false_or]; done))))) | ((with_reducible apply ev_and2); (focus ((array_get_dec; done))); (focus ((first | (with_reducible rfl) | (with_reducible assumption) | exact Bool.not_true | exact Bool.not_false | exact decide_eq_true (by first | (with_reducible assumption) | omega) | exact decide_eq_false (by first | (with_reducible assumption) | omega) | exact nd_t (by first | (with_reducible assumption) | omega) | exact nd_f (by first | (with_reducible assumption) | omega) | exact nb_t (by first | (with_reducible assumption) | omega) | exact nb_f (by first | (with_reducible assumption) | omega) | (simp only [decide_true, decide_false, Bool.not_true, Bool.not_false, Bool.true_and, Bool.and_true, Bool.false_and, Bool.and_false, Bool.or_true, Bool.true_or, Bool.or_false, Bool.false_or]; done))))) | ((with_reducible apply ev_or1); (focus ((array_get_dec; done))); (focus ((first | (with_reducible rfl) | (with_reducible assumption) | exact Bool.not_true | exact Bool.not_false | exact decide_eq_true (by first | (with_reducible assumption) | omega) | exact decide_eq_false (by first | (with_reducible assumption) | omega) | exact nd_t (by first | (with_reducible assumption) | omega) | exact nd_f (by first | (with_reducible assumption) | omega) | exact nb_t (by first | (with_reducible assumption) | omega) | exact nb_f (by first | (with_reducible assumption) | omega) | (simp only [decide_true, decide_false, Bool.not_true, Bool.not_false, Bool.true_and, Bool.and_true, Bool.false_and, Bool.and_false, Bool.or_true, Bool.true_or, Bool.or_false, Bool.false_or]; done))))) | ((with_reducible apply ev_or2); (focus ((array_get_dec; done))); (focus ((first | (with_reducible rfl) | (with_reducible assumption) | exact Bool.not_true | exact Bool.not_false | exact decide_eq_true (by first | (with_reducible assumption) | omega) | exact decide_eq_false (by first | (with_reducible assumption) | omega) | exact nd_t (by first | (with_reducible assumption) | omega) | exact nd_f (by first | (with_reducible assumption) | omega) | exact nb_t (by first | (with_reducible assumption) | omega) | exact nb_f (by first | (with_reducible assumption) | omega) | (simp only [decide_true, decide_false, Bool.not_true, Bool.not_false, Bool.true_and, Bool.and_true, Bool.false_and, Bool.and_false, Bool.or_true, Bool.true_or, Bool.or_false, Bool.false_or]; done))))) | ((with_reducible apply ev_ifE1); (focus ((array_get_dec; done))); (focus ((first | (with_reducible rfl) | (with_reducible assumption) | exact Bool.not_true | exact Bool.not_false | exact decide_eq_true (by first | (with_reducible assumption) | omega) | exact decide_eq_false (by first | (with_reducible assumption) | omega) | exact nd_t (by first | (with_reducible assumption) | omega) | exact nd_f (by first | (with_reducible assumption) | omega) | exact nb_t (by first | (with_reducible assumption) | omega) | exact nb_f (by first | (with_reducible assumption) | omega) | (simp only [decide_true, decide_false, Bool.not_true, Bool.not_false, Bool.true_and, Bool.and_true, Bool.false_and, Bool.and_false, Bool.or_true, Bool.true_or, Bool.or_false, Bool.false_or]; done))))) | ((with_reducible apply ev_ifE2); (focus ((array_get_dec; done))); (focus ((first | (with_reducible rfl) | (with_reducible assumption) | exact Bool.not_true | exact Bool.not_false | exact decide_eq_true (by first | (with_reducible assumption) | omega) | exact decide_eq_false (by first | (with_reducible assumption) | omega) | exact nd_t (by first | (with_reducible assumption) | omega) | exact nd_f (by first | (with_reducible assumption) | omega) | exact nb_t (by first | (with_reducible assumption) | omega) | exact nb_f (by first | (with_reducible assumption) | omega) | (simp only [decide_true, decide_false, Bool.not_true, Bool.not_false, Bool.true_and, Bool.and_true, Bool.false_and, Bool.and_false, Bool.or_true, Bool.true_or, Bool.or_false, Bool.false_or]; done))))) | ((with_reducible apply ev_ifF1); (focus ((array_get_dec; done))); (focus ((first | (with_reducible rfl) | (with_reducible assumption) | exact Bool.not_true | exact Bool.not_false | exact decide_eq_true (by first | (with_reducible assumption) | omega) | exact decide_eq_false (by first | (with_reducible assumption) | omega) | exact nd_t (by first | (with_reducible assumption) | omega) | exact nd_f (by first | (with_reducible assumption) | omega) | exact nb_t (by first | (with_reducible assumption) | omega) | exact nb_f (by first | (with_reducible assumption) | omega) | (simp only [decide_true, decide_false, Bool.not_true, Bool.not_false, Bool.true_and, Bool.and_true, Bool.false_and, Bool.and_false, Bool.or_true, Bool.true_or, Bool.or_false, Bool.false_or]; done))))) | ((with_reducible apply ev_ifF2); (focus ((array_get_dec; done))); (focus ((first | (with_reducible rfl) | (with_reducible assumption) | exact Bool.not_true | exact Bool.not_false | exact decide_eq_true (by first | (with_reducible assumption) | omega) | exact decide_eq_false (by first | (with_reducible assumption) | omega) | exact nd_t (by first | (with_reducible assumption) | omega) | exact nd_f (by first | (with_reducible assumption) | omega) | exact nb_t (by first | (with_reducible assumption) | omega) | exact nb_f (by first | (with_reducible assumption) | omega) | (simp only [decide_true, decide_false, Bool.not_true, Bool.not_false, Bool.true_and, Bool.and_true, Bool.false_and, Bool.and_false, Bool.or_true, Bool.true_or, Bool.or_false, Bool.false_or]; done)))))
  | (with_reducible apply ev_and) | (with_reducible apply ev_or) | (with_reducible apply ev_frz) | (with_reducible apply ev_tup) | (with_reducible apply ev_lst) | (with_reducible apply ev_opNF) | (with_reducible apply ev_op2F) | (with_reducible apply ev_callB) | (with_reducible apply ev_starA) | (with_reducible apply ev_permA) | (with_reducible apply ev_app) | (with_reducible apply ev_ext) | (with_reducible apply ev_pop) | (with_reducible apply ev_rem) | (with_reducible apply ev_aPart) | (with_reducible apply ev_sl) | (with_reducible apply ev_ixT) | (with_reducible apply ev_andE) | (with_reducible apply ev_orE) | (with_reducible apply ev_notE) | (with_reducible apply ev_ifE) | (with_reducible apply ev_consMd) | (with_reducible apply ev_consMf) | (with_reducible apply ev_rng1) | (with_reducible apply ev_seqI) | (with_reducible apply ev_lrg1) | (with_reducible apply ev_lrg2) | (with_reducible apply ev_mk)
  | (with_reducible apply dv_addL) | (with_reducible apply dv_addT) | (with_reducible apply dv_cat)
  | (with_reducible exact dv_eqI _ _) | (with_reducible exact dv_neI _ _) | (with_reducible exact dv_eqS _ _) | (with_reducible exact dv_neS _ _)
  | ((with_reducible show eqD _ _ = some _); exact dv_eqS _ _) | ((with_reducible show neD _ _ = some _); exact dv_neS _ _)
  | (with_reducible exact datAll_dsA _ _ _ (by rfl)) | (with_reducible exact datAll_ds _)
  | ((with_reducible show _ ≤ _); sizeOf_list_dec) | ((with_reducible show _ < _); sizeOf_list_dec)
  | ((with_reducible show (_ : Rho) = _); first | (dsimp only [List.set]; done) | exact rfl)
  | ((with_reducible show (_ : Nat) = _); exact rfl)
  | exact (rfl : _ = some _) | exact (rfl : _ = true) | exact (rfl : _ = false)
  | (intro _))
local macro_rules | `(tactic| array_mem_dec) => `(tactic| repeat' first
  | with_reducible assumption
  | (with_reducible exact ev_next) | (with_reducible exact ev_raise0)
  | ((with_reducible apply ev_seqN); (focus (first | ((with_reducible apply ev_asg); (array_get_dec; done)) | ((with_reducible apply ev_asgM); (array_get_dec; done)) | ((with_reducible apply ev_par); (array_get_dec; done)) | ((with_reducible apply ev_drop); (array_get_dec; done)) | ((with_reducible apply ev_aug); (array_get_dec; done)) | ((with_reducible apply ev_put); (array_get_dec; done)) | (with_reducible assumption) | ((with_reducible apply ev_ifS2); (focus ((array_get_dec; done))); (focus ((first | (with_reducible rfl) | (with_reducible assumption) | exact Bool.not_true | exact Bool.not_false | exact decide_eq_true (by first | (with_reducible assumption) | omega) | exact decide_eq_false (by first | (with_reducible assumption) | omega) | exact nd_t (by first | (with_reducible assumption) | omega) | exact nd_f (by first | (with_reducible assumption) | omega) | exact nb_t (by first | (with_reducible assumption) | omega) | exact nb_f (by first | (with_reducible assumption) | omega) | (simp only [decide_true, decide_false, Bool.not_true, Bool.not_false, Bool.true_and, Bool.and_true, Bool.false_and, Bool.and_false, Bool.or_true, Bool.true_or, Bool.or_false, Bool.false_or]; done)))); exact ev_next))); (focus (first | (dsimp only [List.set, setsR]; done) | exact rfl)))
  | ((with_reducible apply ev_seqR); (focus ((with_reducible apply ev_ifS1); (focus ((array_get_dec; done))); (focus ((first | (with_reducible rfl) | (with_reducible assumption) | exact Bool.not_true | exact Bool.not_false | exact decide_eq_true (by first | (with_reducible assumption) | omega) | exact decide_eq_false (by first | (with_reducible assumption) | omega) | exact nd_t (by first | (with_reducible assumption) | omega) | exact nd_f (by first | (with_reducible assumption) | omega) | exact nb_t (by first | (with_reducible assumption) | omega) | exact nb_f (by first | (with_reducible assumption) | omega) | (simp only [decide_true, decide_false, Bool.not_true, Bool.not_false, Bool.true_and, Bool.and_true, Bool.false_and, Bool.and_false, Bool.or_true, Bool.true_or, Bool.or_false, Bool.false_or]; done)))); ((with_reducible apply ev_ret); (array_get_dec; done)))))
  | ((with_reducible apply ev_seqX); (focus ((with_reducible apply ev_ifS1); (focus ((array_get_dec; done))); (focus ((first | (with_reducible rfl) | (with_reducible assumption) | exact Bool.not_true | exact Bool.not_false | exact decide_eq_true (by first | (with_reducible assumption) | omega) | exact decide_eq_false (by first | (with_reducible assumption) | omega) | exact nd_t (by first | (with_reducible assumption) | omega) | exact nd_f (by first | (with_reducible assumption) | omega) | exact nb_t (by first | (with_reducible assumption) | omega) | exact nb_f (by first | (with_reducible assumption) | omega) | (simp only [decide_true, decide_false, Bool.not_true, Bool.not_false, Bool.true_and, Bool.and_true, Bool.false_and, Bool.and_false, Bool.or_true, Bool.true_or, Bool.or_false, Bool.false_or]; done)))); (first | exact ev_raise0 | ((with_reducible apply ev_raise); (array_get_dec; done))))))
  | ((with_reducible apply ev_seqN); (focus ((with_reducible apply ev_ifS1); (focus ((array_get_dec; done))); (focus ((first | (with_reducible rfl) | (with_reducible assumption) | exact Bool.not_true | exact Bool.not_false | exact decide_eq_true (by first | (with_reducible assumption) | omega) | exact decide_eq_false (by first | (with_reducible assumption) | omega) | exact nd_t (by first | (with_reducible assumption) | omega) | exact nd_f (by first | (with_reducible assumption) | omega) | exact nb_t (by first | (with_reducible assumption) | omega) | exact nb_f (by first | (with_reducible assumption) | omega) | (simp only [decide_true, decide_false, Bool.not_true, Bool.not_false, Bool.true_and, Bool.and_true, Bool.false_and, Bool.and_false, Bool.or_true, Bool.true_or, Bool.or_false, Bool.false_or]; done)))); (array_mem_dec; done))); (focus (first | (dsimp only [List.set, setsR]; done) | exact rfl)))
  | ((with_reducible apply ev_ifS1); (focus ((array_get_dec; done))); (focus ((first | (with_reducible rfl) | (with_reducible assumption) | exact Bool.not_true | exact Bool.not_false | exact decide_eq_true (by first | (with_reducible assumption) | omega) | exact decide_eq_false (by first | (with_reducible assumption) | omega) | exact nd_t (by first | (with_reducible assumption) | omega) | exact nd_f (by first | (with_reducible assumption) | omega) | exact nb_t (by first | (with_reducible assumption) | omega) | exact nb_f (by first | (with_reducible assumption) | omega) | (simp only [decide_true, decide_false, Bool.not_true, Bool.not_false, Bool.true_and, Bool.and_true, Bool.false_and, Bool.and_false, Bool.or_true, Bool.true_or, Bool.or_false, Bool.false_or]; done))))) | ((with_reducible apply ev_ifS2); (focus ((array_get_dec; done))); (focus ((first | (with_reducible rfl) | (with_reducible assumption) | exact Bool.not_true | exact Bool.not_false | exact decide_eq_true (by first | (with_reducible assumption) | omega) | exact decide_eq_false (by first | (with_reducible assumption) | omega) | exact nd_t (by first | (with_reducible assumption) | omega) | exact nd_f (by first | (with_reducible assumption) | omega) | exact nb_t (by first | (with_reducible assumption) | omega) | exact nb_f (by first | (with_reducible assumption) | omega) | (simp only [decide_true, decide_false, Bool.not_true, Bool.not_false, Bool.true_and, Bool.and_true, Bool.false_and, Bool.and_false, Bool.or_true, Bool.true_or, Bool.or_false, Bool.false_or]; done)))))
  | ((with_reducible apply ev_ret); (array_get_dec; done)) | ((with_reducible apply ev_retF); (array_get_dec; done)) | ((with_reducible apply ev_asg); (array_get_dec; done)) | ((with_reducible apply ev_asgM); (array_get_dec; done)) | ((with_reducible apply ev_par); (array_get_dec; done)) | ((with_reducible apply ev_drop); (array_get_dec; done)) | ((with_reducible apply ev_aug); (array_get_dec; done)) | ((with_reducible apply ev_put); (array_get_dec; done)) | ((with_reducible apply ev_raise); (array_get_dec; done)))
theorem hand_ok : f_law_by_hand_right [] = .ok (.bl true) := isT_of (by decide +kernel)
theorem law_true (ns : List Int) (h : ns.length ≤ 63) : f_law [.scr ns] = .ok (.bl true) := by
  obtain ⟨ms, e1, e2, e3⟩ := cells_ok h
  have e5 : m_law_c1 (frameR ns ms) = .ok (List.replicate ms.length (.bl true)) (frameR ns ms) := frame_comp (fun _ hb => right_ok hb) (ns := ns) e3
  have ea := all_true ms.length
  have hh := hand_ok
  unfold frameR at e5
  unfold f_law m_law
  generalize f_law_by_hand_right = H at hh
  refine ev_runF [.d (.scr ns), .no, .no] ?_
  apply Exists.intro
  array_mem_dec
end Lw
open PySem PySem.W PyProof.Rows
set_option maxHeartbeats 0 in
theorem PySem.Challenge.cw_heirturns_k37_lists_that_are_changed_holds : PySem.Challenge.rw_heirturns_k37_lists_that_are_changed.Holds := by
  w_on; o_law; k_head; (case hw => w_witness2)
  k_fill
  refine L2.walk_of (l := PySem.Challenge.rw_heirturns_k37_lists_that_are_changed) (n := 63) (k := 12) (x := "_law_script") (CX := fun w => L2.CX (PySem.Challenge.rw_heirturns_k37_lists_that_are_changed).prog w) (sp := fun w => Lq.spA _ 1 Lw.f_law) rfl (by decide) rfl ⟨rfl, by decide, by decide⟩ (fun w h Y => PySem.W.kIn_of Y) ?F (fun _ H a ns hl _ hS T => ⟨H, [.scr ns], L2.Same.refl _, ⟨_, _, rfl, ⟨a, rfl, hS⟩, rfl⟩, rfl, by rw [Lw.law_true ns hl]; exact fun _ _ _ _ r => r⟩) (fun _ _ _ _ _ z => Lq.cx_no z)
  case F =>
    intro w mg fa h KX G hmg
    refine' Lw.fin (Lw.mkTx KX G ?a_set_of ?l_set_of ?c_set_of ?k_set_of ?a_list_exchanged ?l_list_exchanged ?c_list_exchanged ?k_list_exchanged ?a_thing_put ?l_thing_put ?c_thing_put ?k_thing_put ?a_thing_left_out ?l_thing_left_out ?c_thing_left_out ?k_thing_left_out ?a_share_change ?l_share_change ?c_share_change ?k_share_change ?a_law_box ?l_law_box ?c_law_box ?k_law_box ?a_law_take ?l_law_take ?c_law_take ?k_law_take ?a_law_cells ?l_law_cells ?c_law_cells ?k_law_cells ?a_law_of ?l_law_of ?c_law_of ?k_law_of ?a_law_same ?l_law_same ?c_law_same ?k_law_same ?a_law_pick ?l_law_pick ?c_law_pick ?k_law_pick ?a_law_likes ?l_law_likes ?c_law_likes ?k_law_likes ?a_law_heard ?l_law_heard ?c_law_heard ?k_law_heard ?a_law_due ?l_law_due ?c_law_due ?k_law_due ?a_law_shares_right ?l_law_shares_right ?c_law_shares_right ?k_law_shares_right ?a_law_by_hand_right ?l_law_by_hand_right ?c_law_by_hand_right ?k_law_by_hand_right ?a_law_right ?l_law_right ?c_law_right ?k_law_right ?a_law ?l_law ?c_law ?k_law ?eg_NoThing ?el_NoThing ?esa_NoThing ?eex_NoThing ?ety_NoThing ?ek_NoThing ?ei_NoThing ?eti_NoThing ?eno_NoThing ?ega_NoThing ?egg_NoThing ?ehd_NoThing ?eli_NoThing ?eci_NoThing ?eki_NoThing ?eg_NoPlace ?el_NoPlace ?esa_NoPlace ?eex_NoPlace ?ety_NoPlace ?ek_NoPlace ?ei_NoPlace ?eti_NoPlace ?eno_NoPlace ?ega_NoPlace ?egg_NoPlace ?ehd_NoPlace ?eli_NoPlace ?eci_NoPlace ?eki_NoPlace ?eg_Known ?el_Known ?esa_Known ?eex_Known ?ety_Known ?ek_Known ?ei_Known ?eti_Known ?eno_Known ?ega_Known ?egg_Known ?ehd_Known ?eli_Known ?eci_Known ?eki_Known ?ka_NoThing ?km_NoThing ?ka_NoPlace ?km_NoPlace ?ka_Known ?km_Known ?kn ?kt ?su_NoPlace_NoPlace ?su_NoThing_NoPlace ?su_Known_NoPlace ?ki_NoThing_ValueError ?ki_NoPlace_ValueError ?ki_Known_ValueError ?su_Known_Known ?su_NoThing_Known ?su_NoPlace_Known ?su_NoThing_NoThing ?su_NoPlace_NoThing ?su_Known_NoThing ?z_ValueError ?z_abs ?z_all ?z_bool ?z_enumerate ?z_int ?z_isinstance ?z_len ?z_list ?z_min ?z_range ?z_set ?z_sorted ?z_str ?z_tuple ?z_zip) hmg
    (case a_set_of => k_is); (case l_set_of => k_is); (case c_set_of => k_is); (case k_set_of => k_is); (case a_list_exchanged => k_is); (case l_list_exchanged => k_is); (case c_list_exchanged => k_is); (case k_list_exchanged => k_is); (case a_thing_put => k_is); (case l_thing_put => k_is); (case c_thing_put => k_is); (case k_thing_put => k_is); (case a_thing_left_out => k_is); (case l_thing_left_out => k_is); (case c_thing_left_out => k_is); (case k_thing_left_out => k_is); (case a_share_change => k_is); (case l_share_change => k_is); (case c_share_change => k_is); (case k_share_change => k_is); (case a_law_box => k_is); (case l_law_box => k_is); (case c_law_box => k_is); (case k_law_box => k_is); (case a_law_take => k_is); (case l_law_take => k_is); (case c_law_take => k_is); (case k_law_take => k_is); (case a_law_cells => k_is); (case l_law_cells => k_is); (case c_law_cells => k_is); (case k_law_cells => k_is); (case a_law_of => k_is); (case l_law_of => k_is); (case c_law_of => k_is); (case k_law_of => k_is); (case a_law_same => k_is); (case l_law_same => k_is); (case c_law_same => k_is); (case k_law_same => k_is); (case a_law_pick => k_is); (case l_law_pick => k_is); (case c_law_pick => k_is); (case k_law_pick => k_is); (case a_law_likes => k_is); (case l_law_likes => k_is); (case c_law_likes => k_is); (case k_law_likes => k_is); (case a_law_heard => k_is); (case l_law_heard => k_is); (case c_law_heard => k_is); (case k_law_heard => k_is); (case a_law_due => k_is); (case l_law_due => k_is); (case c_law_due => k_is); (case k_law_due => k_is); (case a_law_shares_right => k_is); (case l_law_shares_right => k_is); (case c_law_shares_right => k_is); (case k_law_shares_right => k_is); (case a_law_by_hand_right => k_is); (case l_law_by_hand_right => k_is); (case c_law_by_hand_right => k_is); (case k_law_by_hand_right => k_is); (case a_law_right => k_is); (case l_law_right => k_is); (case c_law_right => k_is); (case k_law_right => k_is); (case a_law => k_is); (case l_law => k_is); (case c_law => k_is); (case k_law => k_is); (case eg_NoThing => k_is); (case el_NoThing => k_is); (case esa_NoThing => k_is); (case eex_NoThing => k_is); (case ety_NoThing => k_is); (case ek_NoThing => k_is); (case ei_NoThing => k_is); (case eti_NoThing => k_is); (case eno_NoThing => k_is); (case ega_NoThing => k_is); (case egg_NoThing => k_is); (case ehd_NoThing => k_is); (case eli_NoThing => k_is); (case eci_NoThing => k_is); (case eki_NoThing => k_is); (case eg_NoPlace => k_is); (case el_NoPlace => k_is); (case esa_NoPlace => k_is); (case eex_NoPlace => k_is); (case ety_NoPlace => k_is); (case ek_NoPlace => k_is); (case ei_NoPlace => k_is); (case eti_NoPlace => k_is); (case eno_NoPlace => k_is); (case ega_NoPlace => k_is); (case egg_NoPlace => k_is); (case ehd_NoPlace => k_is); (case eli_NoPlace => k_is); (case eci_NoPlace => k_is); (case eki_NoPlace => k_is); (case eg_Known => k_is); (case el_Known => k_is); (case esa_Known => k_is); (case eex_Known => k_is); (case ety_Known => k_is); (case ek_Known => k_is); (case ei_Known => k_is); (case eti_Known => k_is); (case eno_Known => k_is); (case ega_Known => k_is); (case egg_Known => k_is); (case ehd_Known => k_is); (case eli_Known => k_is); (case eci_Known => k_is); (case eki_Known => k_is); (case ka_NoThing => k_is); (case km_NoThing => k_is); (case ka_NoPlace => k_is); (case km_NoPlace => k_is); (case ka_Known => k_is); (case km_Known => k_is); (case kn => k_is); (case kt => k_is); (case su_NoPlace_NoPlace => k_is); (case su_NoThing_NoPlace => k_is); (case su_Known_NoPlace => k_is); (case ki_NoThing_ValueError => k_is); (case ki_NoPlace_ValueError => k_is); (case ki_Known_ValueError => k_is); (case su_Known_Known => k_is); (case su_NoThing_Known => k_is); (case su_NoPlace_Known => k_is); (case su_NoThing_NoThing => k_is); (case su_NoPlace_NoThing => k_is); (case su_Known_NoThing => k_is); (case z_ValueError => k_is); (case z_abs => k_is); (case z_all => k_is); (case z_bool => k_is); (case z_enumerate => k_is); (case z_int => k_is); (case z_isinstance => k_is); (case z_len => k_is); (case z_list => k_is); (case z_min => k_is); (case z_range => k_is); (case z_set => k_is); (case z_sorted => k_is); (case z_str => k_is); (case z_tuple => k_is); (case z_zip => k_is)
