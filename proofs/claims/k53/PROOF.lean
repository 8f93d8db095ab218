import PyProof.Rows.All
import Wide.All
import OpenK.AllK
import Wide.FinOn
import HandS.ForMost
import HandS.ForExc
import HandS.CallSlots
import HandS.Slots
import HandS.ExcValue
import HandS.ExcInit
import HandS.TupAny
import HandS.NoneIn
import HandS.Zip
import HandS.TupMul
import HandS.IsInst
import HandS.Style
import PyProof.Rows.SortShellAny
import PyProof.TupleOfSeq
import HandS.Flow
import HandS.ExcField
import HandS.SetFor
import HandS.ExcIs
import KE.GoesEnum
import PySem.Challenge.RW_heirturns_k53_shares_on_lists
set_option Elab.async false
set_option linter.all false
set_option maxRecDepth 100000
set_option maxHeartbeats 4000000
namespace Lq
open PySem PySem.Spec PyProof.Rows L2

/-! ### plain data -/
inductive D where
  | non
  | bl (b : Bool)
  | int (i : Int)
  | str (s : Str)
  | lst (xs : List D)
  | tup (xs : List D)
  | obj (t : Nat) (fs : List D)
  | scr (ns : List Int)

inductive Cell where
  | no
  | d (x : D)
  | m (xs : List D)
  | b (ns : List Int)
abbrev Rho := List Cell
/-- a value: data, or the list that a slot holds as its own -/
inductive VD where
  | d (x : D)
  | sl (i : Nat)
/-- an error: its class, its fields -/
structure Xn where
  t : Nat
  fs : List D
inductive R (α : Type) where
  | ok (a : α) (r : Rho)
  | err (x : Xn) (r : Rho)
  | bad
def R.bind {α β : Type} (r : R α) (k : α → Rho → R β) : R β := match r with
  | .ok a q => k a q
  | .err x q => .err x q
  | .bad => .bad
/-- what a def gives -/
inductive Res where
  | ok (d : D)
  | err (x : Xn)
  | bad

abbrev Tb := Nat → Addr
/-- the kinds of objects: errors below 20, instances with slots from 20 on -/
def flds : Nat → List Str
  | 0 => ["place"] | 1 => ["piece"] | 2 => ["number"] | 3 => ["name"] | 4 => ["number"] | 5 => ["given"] | 6 => ["given"] | 7 => ["name"] | 8 => ["given"] | 9 => ["name"] | 10 => ["name"] | 11 => ["number"]
  | _ => []
def isEx (t : Nat) : Bool := Nat.blt t 20
/-- an error that was caught, at a -/
def ExK (C d a : Addr) : HO := .ext fun h => ∃ (oe : Obj) (vs : Array Value), h.get? a = some oe ∧ Zc (.ref C) (some d) oe ∧ oe.data = .fields vs
def OB (T : Tb) (S : Hp) (t : Nat) (a : Addr) (vs : List V) : Prop :=
  (isEx t = true ∧ ∃ dd, S a = some (ExK (T t) dd a) ∧ S dd = some (.xd ((flds t).zip vs))) ∨ (isEx t = false ∧ ∃ dx, S a = some (SlX.SlO a (T t) dx (vs.map some)) ∧ S dx = some (.xd []))
theorem OB.mono {T : Tb} {S S' : Hp} {t : Nat} {a : Addr} {vs : List V} (e : Same S S') (h : OB T S t a vs) : OB T S' t a vs := by
  rcases h with ⟨h, dd, h1, h2⟩ | ⟨h, dd, h1, h2⟩
  · exact .inl ⟨h, dd, e _ _ h1, e _ _ h2⟩
  · exact .inr ⟨h, dd, e _ _ h1, e _ _ h2⟩
mutual
def Rp (K : PySem.W.Frag) (T : Tb) (S : Hp) : D → V → Prop
  | .non, v => v = .non
  | .bl b, v => v = .bl b
  | .int i, v => v = .int i
  | .str x, v => v = .str x
  | .lst ds, v => ∃ a vs, v = .ref a ∧ S a = some (.lst vs) ∧ Rps K T S ds vs
  | .tup ds, v => ∃ a vs, v = .ref a ∧ SqT K S a vs ∧ Rps K T S ds vs
  | .obj t ds, v => ∃ a vs, v = .ref a ∧ OB T S t a vs ∧ Rps K T S ds vs
  | .scr ns, v => ∃ a, v = .ref a ∧ SqL K S a (ns.map V.int)
def Rps (K : PySem.W.Frag) (T : Tb) (S : Hp) : List D → List V → Prop
  | [], vs => vs = []
  | d :: ds, vs => ∃ v r, vs = v :: r ∧ Rp K T S d v ∧ Rps K T S ds r
end
section
variable {K : PySem.W.Frag} {T : Tb} {S S' : Hp}
theorem same_tup {a : Addr} {xs : List V} (e : Same S S') (h : SqT K S a xs) : SqT K S' a xs := by
  rcases h with h | h
  · rcases h with h | ⟨o, h⟩
    · exact .inl (.inl (e _ _ h))
    · exact .inl (.inr ⟨o, e _ _ h⟩)
  · exact .inr h
mutual
theorem Rp.mono (e : Same S S') : ∀ (d : D) (v : V), Rp K T S d v → Rp K T S' d v
  | .non, _, h => h
  | .bl _, _, h => h
  | .int _, _, h => h
  | .str _, _, h => h
  | .lst ds, _, ⟨a, vs, e1, h, hs⟩ => ⟨a, vs, e1, e _ _ h, Rps.mono e ds vs hs⟩
  | .tup ds, _, ⟨a, vs, e1, h, hs⟩ => ⟨a, vs, e1, same_tup e h, Rps.mono e ds vs hs⟩
  | .obj _ ds, _, ⟨a, vs, e1, h, hs⟩ => ⟨a, vs, e1, h.mono e, Rps.mono e ds vs hs⟩
  | .scr _, _, ⟨a, e1, h⟩ => ⟨a, e1, e.seq h⟩
theorem Rps.mono (e : Same S S') : ∀ (ds : List D) (vs : List V), Rps K T S ds vs → Rps K T S' ds vs
  | [], _, h => h
  | d :: ds, _, ⟨v, r, e1, h, hs⟩ => ⟨v, r, e1, Rp.mono e d v h, Rps.mono e ds r hs⟩
end
theorem Rps.len : ∀ {ds : List D} {vs : List V}, Rps K T S ds vs → vs.length = ds.length
  | [], _, h => by rw [show _ = [] from h]; rfl
  | d :: ds, _, ⟨v, r, e1, h, hs⟩ => by rw [e1, List.length_cons, List.length_cons, Rps.len hs]
theorem Rps.get : ∀ {ds : List D} {vs : List V} {i : Nat} {d : D}, Rps K T S ds vs → ds[i]? = some d → ∃ v, vs[i]? = some v ∧ Rp K T S d v
  | [], _, _, _, h, e => by simp at e
  | d :: ds, _, 0, _, ⟨v, r, e1, h, hs⟩, e => by
    simp at e; subst e; exact ⟨v, by rw [e1]; rfl, h⟩
  | d :: ds, _, i + 1, _, ⟨v, r, e1, h, hs⟩, e => by
    obtain ⟨w, h1, h2⟩ := Rps.get (i := i) hs (by simpa using e)
    exact ⟨w, by rw [e1]; simpa using h1, h2⟩
theorem Rps.append : ∀ {ds es : List D} {vs ws : List V}, Rps K T S ds vs → Rps K T S es ws → Rps K T S (ds ++ es) (vs ++ ws)
  | [], _, _, _, h, q => by rw [show _ = [] from h]; exact q
  | d :: ds, _, _, _, ⟨v, r, e1, h, hs⟩, q => ⟨v, r ++ _, by rw [e1]; rfl, h, Rps.append hs q⟩
theorem Rps.take : ∀ {ds : List D} {vs : List V} (n : Nat), Rps K T S ds vs → Rps K T S (ds.take n) (vs.take n)
  | _, _, 0, _ => by simp only [List.take_zero]; exact rfl
  | [], _, n + 1, h => by rw [show _ = [] from h]; simp only [List.take_nil]; exact rfl
  | d :: ds, _, n + 1, ⟨v, r, e1, h, hs⟩ => by rw [e1]; exact ⟨v, r.take n, rfl, h, Rps.take n hs⟩
theorem Rps.drop : ∀ {ds : List D} {vs : List V} (n : Nat), Rps K T S ds vs → Rps K T S (ds.drop n) (vs.drop n)
  | _, _, 0, h => h
  | [], _, n + 1, h => by rw [show _ = [] from h]; simp only [List.drop_nil]; exact rfl
  | d :: ds, _, n + 1, ⟨v, r, e1, h, hs⟩ => by rw [e1]; exact Rps.drop n hs
theorem Rps.reverse : ∀ {ds : List D} {vs : List V}, Rps K T S ds vs → Rps K T S ds.reverse vs.reverse
  | [], _, h => by rw [show _ = [] from h]; exact rfl
  | d :: ds, _, ⟨v, r, e1, h, hs⟩ => by
    rw [e1, List.reverse_cons, List.reverse_cons]
    exact Rps.append (Rps.reverse hs) ⟨v, [], rfl, h, rfl⟩
theorem Rps.one {d : D} {v : V} (h : Rp K T S d v) : Rps K T S [d] [v] := ⟨v, [], rfl, h, rfl⟩
theorem Rps.set : ∀ {ds : List D} {vs : List V} {d : D} {v : V} (i : Nat), Rps K T S ds vs → Rp K T S d v → Rps K T S (ds.set i d) (vs.set i v)
  | [], _, _, _, _, h, _ => by rw [show _ = [] from h]; exact rfl
  | d :: ds, _, _, _, 0, ⟨v, r, e1, h, hs⟩, q => by rw [e1]; exact ⟨_, r, rfl, q, hs⟩
  | d :: ds, _, _, _, i + 1, ⟨v, r, e1, h, hs⟩, q => by rw [e1]; exact ⟨v, _, rfl, h, Rps.set i hs q⟩
theorem Rps.ints : ∀ (ns : List Int), Rps K T S (ns.map D.int) (ns.map V.int)
  | [] => rfl
  | n :: ns => ⟨_, _, rfl, rfl, Rps.ints ns⟩
theorem Rps.strs : ∀ (ns : List Str), Rps K T S (ns.map D.str) (ns.map V.str)
  | [] => rfl
  | n :: ns => ⟨_, _, rfl, rfl, Rps.strs ns⟩
theorem Rps.bls : ∀ (ns : List Bool), Rps K T S (ns.map D.bl) (ns.map V.bl)
  | [] => rfl
  | n :: ns => ⟨_, _, rfl, rfl, Rps.bls ns⟩
/-- ints read back -/
def D.int? : D → Option Int
  | .int i => some i
  | _ => none
def D.str? : D → Option Str
  | .str i => some i
  | _ => none
def D.bl? : D → Option Bool
  | .bl i => some i
  | _ => none
def D.items? : D → Option (List D)
  | .lst xs => some xs
  | .tup xs => some xs
  | _ => none
def allOf {α : Type} (f : D → Option α) : List D → Option (List α)
  | [] => some []
  | d :: ds => match f d, allOf f ds with
    | some a, some l => some (a :: l)
    | _, _ => none
theorem allOf_ints : ∀ {ds : List D} {ns : List Int}, allOf D.int? ds = some ns → ds = ns.map D.int
  | [], ns, h => by simp [allOf] at h; subst h; rfl
  | d :: ds, ns, h => by
    cases d <;> simp [allOf, D.int?] at h
    rename_i i
    cases q : allOf D.int? ds with
    | none => rw [q] at h; simp at h
    | some l => rw [q] at h; simp at h; subst h; rw [allOf_ints q]; rfl
theorem allOf_strs : ∀ {ds : List D} {ns : List Str}, allOf D.str? ds = some ns → ds = ns.map D.str
  | [], ns, h => by simp [allOf] at h; subst h; rfl
  | d :: ds, ns, h => by
    cases d <;> simp [allOf, D.str?] at h
    rename_i i
    cases q : allOf D.str? ds with
    | none => rw [q] at h; simp at h
    | some l => rw [q] at h; simp at h; subst h; rw [allOf_strs q]; rfl
theorem allOf_bls : ∀ {ds : List D} {ns : List Bool}, allOf D.bl? ds = some ns → ds = ns.map D.bl
  | [], ns, h => by simp [allOf] at h; subst h; rfl
  | d :: ds, ns, h => by
    cases d <;> simp [allOf, D.bl?] at h
    rename_i i
    cases q : allOf D.bl? ds with
    | none => rw [q] at h; simp at h
    | some l => rw [q] at h; simp at h; subst h; rw [allOf_bls q]; rfl
theorem Rps.intsV : ∀ {ns : List Int} {vs : List V}, Rps K T S (ns.map D.int) vs → vs = ns.map V.int
  | [], _, h => h
  | n :: ns, _, ⟨v, r, e1, h, hs⟩ => by rw [e1, show v = _ from h, Rps.intsV hs]; rfl
theorem Rps.strsV : ∀ {ns : List Str} {vs : List V}, Rps K T S (ns.map D.str) vs → vs = ns.map V.str
  | [], _, h => h
  | n :: ns, _, ⟨v, r, e1, h, hs⟩ => by rw [e1, show v = _ from h, Rps.strsV hs]; rfl
theorem Rps.blsV : ∀ {ns : List Bool} {vs : List V}, Rps K T S (ns.map D.bl) vs → vs = ns.map V.bl
  | [], _, h => h
  | n :: ns, _, ⟨v, r, e1, h, hs⟩ => by rw [e1, show v = _ from h, Rps.blsV hs]; rfl

/-! ### heaps grow -/
structure Ext (S H S' H' : Hp) : Prop where
  s : Same S S'
  h : Same H H'
  sh : Same S' H'
  fr : ∀ b o, H b = some o → S' b = S b
theorem Ext.refl {S H : Hp} (e : Same S H) : Ext S H S H := ⟨Same.refl _, Same.refl _, e, fun _ _ _ => rfl⟩
theorem Ext.trans {S H S1 H1 S2 H2 : Hp} (a : Ext S H S1 H1) (b : Ext S1 H1 S2 H2) : Ext S H S2 H2 :=
  ⟨a.s.trans b.s, a.h.trans b.h, b.sh, fun c o e => (b.fr c o (a.h c o e)).trans (a.fr c o e)⟩
theorem same_new {H : Hp} {p : Addr} {o : HO} (h : H p = none) : Same H (upd H p o) := fun b u e => by
  rw [upd_ne (ne_of_none e h)]; exact e
theorem same_upd2 {S H : Hp} {p : Addr} {o : HO} (e : Same S H) : Same (upd S p o) (upd H p o) := fun b u q => by
  by_cases hb : b = p
  · subst hb; rw [upd_same] at q ⊢; exact q
  · rw [upd_ne hb] at q ⊢; exact e b u q
theorem Ext.new {S H : Hp} {p : Addr} {o : HO} (e : Same S H) (h : H p = none) : Ext S H (upd S p o) (upd H p o) :=
  ⟨same_new (e.free h), same_new h, same_upd2 e, fun b u q => upd_ne (ne_of_none q h)⟩
theorem Ext.skip {S H : Hp} {p : Addr} {o : HO} (e : Same S H) (h : H p = none) : Ext S H S (upd H p o) :=
  ⟨Same.refl _, same_new h, e.trans (same_new h), fun b u q => rfl⟩

/-- what comes is d, behind a growth of the heap -/
def Gv (K : PySem.W.Frag) (T : Tb) (S H : Hp) (d : D) (Q : VK) : Prop := ∀ S' H' v, Ext S H S' H' → Rp K T S' d v → Q v H'
/-- .. a new list, that nobody else has -/
def Gf (K : PySem.W.Frag) (T : Tb) (S H : Hp) (ds : List D) (Q : VK) : Prop := ∀ S' H' p vs, Ext S H S' H' → H p = none → S' p = none → H' p = some (.lst vs) → Rps K T S' ds vs → Q (.ref p) H'
theorem Gv.now {H : Hp} {d : D} {v : V} {Q : VK} (g : Gv K T S H d Q) (e : Same S H) (r : Rp K T S d v) : Q v H := g S H v (Ext.refl e) r
theorem Gv.newL {H : Hp} {ds : List D} {vs : List V} {Q : VK} (g : Gv K T S H (.lst ds) Q) (e : Same S H) (r : Rps K T S ds vs) (p : Addr) (hp : H p = none) : Q (.ref p) (upd H p (.lst vs)) :=
  g _ _ _ (Ext.new e hp) ⟨p, vs, rfl, upd_same, Rps.mono (same_new (e.free hp)) _ _ r⟩
theorem Gv.newT {H : Hp} {ds : List D} {vs : List V} {Q : VK} (g : Gv K T S H (.tup ds) Q) (e : Same S H) (r : Rps K T S ds vs) (p : Addr) (hp : H p = none) : Q (.ref p) (upd H p (.tup vs)) :=
  g _ _ _ (Ext.new e hp) ⟨p, vs, rfl, SqT.of upd_same, Rps.mono (same_new (e.free hp)) _ _ r⟩
theorem Gf.new {H : Hp} {ds : List D} {vs : List V} {Q : VK} (g : Gf K T S H ds Q) (e : Same S H) (r : Rps K T S ds vs) (p : Addr) (hp : H p = none) : Q (.ref p) (upd H p (.lst vs)) :=
  g _ _ p vs (Ext.skip e hp) hp (e.free hp) upd_same r
theorem Gf.of {H : Hp} {ds : List D} {Q : VK} (g : Gv K T S H (.lst ds) Q) : Gf K T S H ds Q := fun S' H' p vs e hp sp hv r =>
  g (upd S' p (.lst vs)) H' (.ref p) ⟨e.s.trans (same_new sp), e.h, fun b o q => by
      by_cases hb : b = p
      · subst hb; rw [upd_same] at q; rw [← q]; exact hv
      · rw [upd_ne hb] at q; exact e.sh b o q, fun b o q => by rw [upd_ne (ne_of_none q hp)]; exact e.fr b o q⟩ ⟨p, vs, rfl, upd_same, Rps.mono (same_new sp) _ _ r⟩

/-! ### a def's slots -/
def CellOk (K : PySem.W.Frag) (T : Tb) (β : Option Addr) (G S H : Hp) (v : Option (Option V)) : Cell → Prop
  | .no => True
  | .d x => ∃ u, v = some (some u) ∧ Rp K T S x u
  | .m xs => ∃ a vs, v = some (some (.ref a)) ∧ H a = some (.lst vs) ∧ S a = none ∧ G a = none ∧ β ≠ some a ∧ Rps K T S xs vs
  | .b ns => ∃ a, v = some (some (.ref a)) ∧ β = some a ∧ H a = some (.lst (ns.map V.int))
structure Ok (K : PySem.W.Frag) (T : Tb) (β : Option Addr) (G S : Hp) (σ : L2.St) (ρ : Rho) (H : Hp) : Prop where
  sh : Same S H
  gh : Same G H
  gs : ∀ b o, G b = some o → S b = none
  gb : ∀ b, β = some b → G b = none ∧ S b = none
  bx : ∀ b, β = some b → ∃ ns : List Int, H b = some (.lst (ns.map V.int))
  len : σ.length = ρ.length
  cel : ∀ (i : Nat) (c : Cell), ρ[i]? = some c → CellOk K T β G S H σ[i]? c
  dis : ∀ (i j : Nat) (xs ys : List D), ρ[i]? = some (.m xs) → ρ[j]? = some (.m ys) → σ[i]? = σ[j]? → i = j
theorem CellOk.ext {β : Option Addr} {G H H' : Hp} {v : Option (Option V)} {c : Cell} (h : CellOk K T β G S H v c) (e : Ext S H S' H') : CellOk K T β G S' H' v c := by
  cases c with
  | no => trivial
  | d x => obtain ⟨u, e1, r⟩ := h; exact ⟨u, e1, Rp.mono e.s _ _ r⟩
  | m xs =>
    obtain ⟨a, vs, e1, e2, e3, e4, e5, r⟩ := h
    exact ⟨a, vs, e1, e.h _ _ e2, (e.fr _ _ e2).trans e3, e4, e5, Rps.mono e.s _ _ r⟩
  | b ns => obtain ⟨a, e1, e2, e3⟩ := h; exact ⟨a, e1, e2, e.h _ _ e3⟩
theorem Ok.ext {β : Option Addr} {G H H' : Hp} {σ : L2.St} {ρ : Rho} (o : Ok K T β G S σ ρ H) (e : Ext S H S' H') : Ok K T β G S' σ ρ H' where
  sh := e.sh
  gh := o.gh.trans e.h
  gs := fun b u q => (e.fr b u (o.gh b u q)).trans (o.gs b u q)
  gb := fun b q => ⟨(o.gb b q).1, by obtain ⟨u, z⟩ := o.bx b q; exact (e.fr b _ z).trans (o.gb b q).2⟩
  bx := fun b q => by obtain ⟨u, z⟩ := o.bx b q; exact ⟨u, e.h b _ z⟩
  len := o.len
  cel := fun i c q => (o.cel i c q).ext e
  dis := o.dis

/-! ### resolving -/
def RpV (K : PySem.W.Frag) (T : Tb) (σ : L2.St) (S : Hp) : VD → V → Prop
  | .d x, u => Rp K T S x u
  | .sl i, u => σ[i]? = some (some u)
def res : VD → Rho → Option D
  | .d x, _ => some x
  | .sl i, ρ => match ρ[i]? with
    | some (.m xs) => some (.lst xs)
    | some (.b ns) => some (.lst (ns.map D.int))
    | _ => none
/-- d at the top in H, its items in S -/
def RpH (K : PySem.W.Frag) (T : Tb) (S H : Hp) (d : D) (v : V) : Prop := Rp K T S d v ∨ ∃ a vs xs, v = .ref a ∧ d = .lst xs ∧ H a = some (.lst vs) ∧ Rps K T S xs vs
theorem RpV.mono {σ : L2.St} {v : VD} {u : V} (e : Same S S') (h : RpV K T σ S v u) : RpV K T σ S' v u := by
  cases v with
  | d x => exact Rp.mono e _ _ h
  | sl i => exact h
theorem Ok.res {β : Option Addr} {G H : Hp} {σ : L2.St} {ρ : Rho} {v : VD} {u : V} {d : D} (o : Ok K T β G S σ ρ H) (h : RpV K T σ S v u) (e : res v ρ = some d) : RpH K T S H d u := by
  cases v with
  | d x => simp only [Lq.res, Option.some.injEq] at e; subst e; exact .inl h
  | sl i =>
    simp only [Lq.res] at e
    have h' : σ[i]? = some (some u) := h
    split at e
    · rename_i xs q
      cases e
      obtain ⟨a, vs, e1, e2, e3, e4, e5, r⟩ := o.cel i _ q
      rw [h'] at e1; cases e1
      exact .inr ⟨a, vs, xs, rfl, rfl, e2, r⟩
    · rename_i ns q
      cases e
      obtain ⟨a, e1, e2, e3⟩ := o.cel i _ q
      rw [h'] at e1; cases e1
      exact .inr ⟨a, _, _, rfl, rfl, e3, Rps.ints ns⟩
    · cases e
theorem RpH.int {H : Hp} {i : Int} {v : V} (h : RpH K T S H (.int i) v) : v = .int i := by
  rcases h with h | ⟨_, _, _, _, e, _⟩
  · exact h
  · cases e
theorem RpH.str {H : Hp} {i : Str} {v : V} (h : RpH K T S H (.str i) v) : v = .str i := by
  rcases h with h | ⟨_, _, _, _, e, _⟩
  · exact h
  · cases e
theorem RpH.bl {H : Hp} {i : Bool} {v : V} (h : RpH K T S H (.bl i) v) : v = .bl i := by
  rcases h with h | ⟨_, _, _, _, e, _⟩
  · exact h
  · cases e
theorem RpH.non {H : Hp} {v : V} (h : RpH K T S H .non v) : v = .non := by
  rcases h with h | ⟨_, _, _, _, e, _⟩
  · exact h
  · cases e
theorem RpH.lst {H : Hp} {xs : List D} {v : V} (h : RpH K T S H (.lst xs) v) (e : Same S H) : ∃ a vs, v = .ref a ∧ H a = some (.lst vs) ∧ Rps K T S xs vs := by
  rcases h with ⟨a, vs, e1, q, r⟩ | ⟨a, vs, ys, e1, e2, q, r⟩
  · exact ⟨a, vs, e1, e _ _ q, r⟩
  · cases e2; exact ⟨a, vs, e1, q, r⟩
theorem RpH.tup {H : Hp} {xs : List D} {v : V} (h : RpH K T S H (.tup xs) v) (e : Same S H) : ∃ a vs, v = .ref a ∧ SqT K H a vs ∧ Rps K T S xs vs := by
  rcases h with ⟨a, vs, e1, q, r⟩ | ⟨a, vs, ys, e1, e2, q, r⟩
  · exact ⟨a, vs, e1, same_tup e q, r⟩
  · cases e2
end

/-! ### what is wanted behind a piece of code -/
/-- an error, as it lies -/
def XR (K : PySem.W.Frag) (T : Tb) (S : Hp) (x : Xn) (c : Value) (d : Option Addr) : Prop :=
  c = .ref (T x.t) ∧ ∃ dd vs, d = some dd ∧ S dd = some (.xd ((flds x.t).zip vs)) ∧ Rps K T S x.fs vs
def Post (K : PySem.W.Frag) (T : Tb) (W : WX) (β : Option Addr) (G S : Hp) (σ : L2.St) {α γ : Type} (Rl : Hp → α → γ → Prop) (r : R α) (Q : γ → Hp → Prop) : Prop := match r with
  | .ok a ρ' => ∀ S' H' u, Same S S' → Ok K T β G S' σ ρ' H' → Rl S' a u → Q u H'
  | .err x ρ' => ∀ S' H' c d, Same S S' → Ok K T β G S' σ ρ' H' → XR K T S' x c d → W c d σ H'
  | .bad => False
def rG (K : PySem.W.Frag) (T : Tb) (W : WX) {α γ : Type} (Rl : L2.St → Hp → α → γ → Prop) (f : Rho → R α) : L2.St → Hp → (γ → Hp → Prop) → Prop := fun σ H Q =>
  ∃ β G S ρ, Ok K T β G S σ ρ H ∧ Post K T W β G S σ (Rl σ) (f ρ) Q
section
variable {K : PySem.W.Frag} {T : Tb} {W : WX} {β : Option Addr} {G S S' : Hp} {σ : L2.St} {α γ α' γ' : Type} {Rl : Hp → α → γ → Prop} {Rl' : Hp → α' → γ' → Prop}
theorem Post.mono {r : R α} {Q : γ → Hp → Prop} (h : Post K T W β G S σ Rl r Q) (e : Same S S') : Post K T W β G S' σ Rl r Q := by
  cases r with
  | ok a ρ' => exact fun S2 H2 u e2 o r => h S2 H2 u (e.trans e2) o r
  | err x ρ' => exact fun S2 H2 c d e2 o r => h S2 H2 c d (e.trans e2) o r
  | bad => exact h
theorem Post.bind {r : R α} {k : α → Rho → R α'} {Q : γ' → Hp → Prop} (h : Post K T W β G S σ Rl' (r.bind k) Q) :
    Post K T W β G S σ Rl r (fun u H1 => ∃ S1 ρ1 a, Same S S1 ∧ Ok K T β G S1 σ ρ1 H1 ∧ Rl S1 a u ∧ Post K T W β G S1 σ Rl' (k a ρ1) Q) := by
  cases r with
  | ok a ρ' => exact fun S1 H1 u e o q => ⟨S1, ρ', a, e, o, q, h.mono e⟩
  | err x ρ' => exact h
  | bad => exact h.elim
theorem Post.thn {r : R α} {k : α → Rho → R α'} {Q : γ' → Hp → Prop} {Q' : γ → Hp → Prop} (h : Post K T W β G S σ Rl' (r.bind k) Q)
    (f : ∀ S1 H1 ρ1 a u, Same S S1 → Ok K T β G S1 σ ρ1 H1 → Rl S1 a u → Post K T W β G S1 σ Rl' (k a ρ1) Q → Q' u H1) : Post K T W β G S σ Rl r Q' := by
  cases r with
  | ok a ρ' => exact fun S1 H1 u e o q => f S1 H1 ρ' a u e o q (Post.mono h e)
  | err x ρ' => exact h
  | bad => exact h.elim
theorem Post.gv {ρ : Rho} {H : Hp} {d : D} {Q : VK} (h : Post K T W β G S σ (RpV K T σ) (.ok (.d d) ρ) Q) (o : Ok K T β G S σ ρ H) : Gv K T S H d Q :=
  fun S' H' v e r => h S' H' v e.s (o.ext e) r
end
/-- an expression, a test, arguments -/
abbrev rE (K : PySem.W.Frag) (T : Tb) (W : WX) (f : Rho → R VD) : TE := rG K T W (RpV K T) f
abbrev rT (K : PySem.W.Frag) (T : Tb) (W : WX) (f : Rho → R Bool) : TT := rG K T W (fun _ _ (b c : Bool) => b = c) f
def RpVs (K : PySem.W.Frag) (T : Tb) (σ : L2.St) (S : Hp) : List VD → List V → Prop
  | [], us => us = []
  | v :: vs, us => ∃ u r, us = u :: r ∧ RpV K T σ S v u ∧ RpVs K T σ S vs r
theorem RpVs.mono {K : PySem.W.Frag} {T : Tb} {σ : L2.St} {S S' : Hp} (e : Same S S') : ∀ {vs : List VD} {us : List V}, RpVs K T σ S vs us → RpVs K T σ S' vs us
  | [], _, h => h
  | _ :: _, _, ⟨u, r, e1, h, hs⟩ => ⟨u, r, e1, h.mono e, RpVs.mono e hs⟩
abbrev rA (K : PySem.W.Frag) (T : Tb) (W : WX) (f : Rho → R (List VD)) : TA := rG K T W (RpVs K T) f
def XE (X : Cx) (T : Tb) (W : WX) (e : Expr) (f : Rho → R VD) : Prop := PE X e (rE X.K T W f)
def XT (X : Cx) (T : Tb) (W : WX) (e : Expr) (f : Rho → R Bool) : Prop := PT X e (rT X.K T W f)
def XA (X : Cx) (T : Tb) (W : WX) (es : List Expr) (f : Rho → R (List VD)) : Prop := PA X es (rA X.K T W f)
theorem _root_.L2.PE.impQ {X : Cx} {e : Expr} {t t' : TE} (h : PE X e t) (i : ∀ σ H Q, t' σ H Q → t σ H Q) : PE X e t' := ⟨fun pins s σ H Q I w => h.run pins s σ H Q I (i σ H Q w)⟩
theorem _root_.L2.PT.impQ {X : Cx} {e : Expr} {t t' : TT} (h : PT X e t) (i : ∀ σ H Q, t' σ H Q → t σ H Q) : PT X e t' := ⟨fun pins s σ H Q I w => h.run pins s σ H Q I (i σ H Q w)⟩
theorem _root_.L2.PA.impQ {X : Cx} {e : List Expr} {t t' : TA} (h : PA X e t) (i : ∀ σ H Q, t' σ H Q → t σ H Q) : PA X e t' := ⟨fun pos pins s σ H Q I w => h.run pos pins s σ H Q I (i σ H Q w)⟩
theorem _root_.L2.PS.impQ {X : Cx} {e : Stmt} {t t' : TS} (h : PS X e t) (i : ∀ D σ H, t' D σ H → t D σ H) : PS X e t' := ⟨fun pins s σ H D I w => h.run pins s σ H D I (i D σ H w)⟩
theorem _root_.L2.PSs.impQ {X : Cx} {e : List Stmt} {t t' : TS} (h : PSs X e t) (i : ∀ D σ H, t' D σ H → t D σ H) : PSs X e t' := ⟨fun pins s σ H D I w => h.run pins s σ H D I (i D σ H w)⟩
end Lq
namespace Lq
open PySem PySem.Spec PyProof.Rows L2

def nameE (i : Nat) : Rho → R VD := fun ρ => match ρ[i]? with
  | some (.d x) => .ok (.d x) ρ
  | some (.m _) => .ok (.sl i) ρ
  | some (.b _) => .ok (.sl i) ρ
  | _ => .bad
def constE (d : D) : Rho → R VD := fun ρ => .ok (.d d) ρ
def lift1 (g : D → Option D) (v : VD) (ρ : Rho) : R VD := match res v ρ with
  | some x => (match g x with | some d => .ok (.d d) ρ | none => .bad)
  | none => .bad
def lift2 (g : D → D → Option D) (v w : VD) (ρ : Rho) : R VD := match res v ρ, res w ρ with
  | some x, some y => (match g x y with | some d => .ok (.d d) ρ | none => .bad)
  | _, _ => .bad
def op1E (g : D → Option D) (fa : Rho → R VD) : Rho → R VD := fun ρ => (fa ρ).bind fun v ρ1 => lift1 g v ρ1
def op2E (g : D → D → Option D) (fa fb : Rho → R VD) : Rho → R VD := fun ρ => (fa ρ).bind fun v ρ1 => (fb ρ1).bind fun w ρ2 => lift2 g v w ρ2
def resAll : List VD → Rho → Option (List D)
  | [], _ => some []
  | v :: vs, ρ => match res v ρ, resAll vs ρ with
    | some x, some xs => some (x :: xs)
    | _, _ => none
def liftN (g : List D → Option D) (vs : List VD) (ρ : Rho) : R VD := match resAll vs ρ with
  | some xs => (match g xs with | some d => .ok (.d d) ρ | none => .bad)
  | none => .bad
def opNE (g : List D → Option D) (fa : Rho → R (List VD)) : Rho → R VD := fun ρ => (fa ρ).bind fun vs ρ1 => liftN g vs ρ1
def RpHs (K : PySem.W.Frag) (T : Tb) (S H : Hp) : List D → List V → Prop
  | [], us => us = []
  | d :: ds, us => ∃ u r, us = u :: r ∧ RpH K T S H d u ∧ RpHs K T S H ds r
theorem Ok.resAll {K : PySem.W.Frag} {T : Tb} {β : Option Addr} {G S H : Hp} {σ : L2.St} {ρ : Rho} (o : Ok K T β G S σ ρ H) : ∀ {vs : List VD} {us : List V} {ds : List D}, RpVs K T σ S vs us → resAll vs ρ = some ds → RpHs K T S H ds us
  | [], us, ds, h, e => by
    simp only [Lq.resAll, Option.some.injEq] at e; subst e; exact h
  | v :: vs, us, ds, ⟨u, r, e1, h, hs⟩, e => by
    simp only [Lq.resAll] at e
    split at e
    · rename_i x xs q1 q2
      cases e
      exact ⟨u, r, e1, o.res h q1, Ok.resAll o hs q2⟩
    · cases e

def Prim1 (K : PySem.W.Frag) (T : Tb) (r : V → Hp → VK → Prop) (g : D → Option D) : Prop := ∀ S H x dx d Q, Same S H → RpH K T S H dx x → g dx = some d → Gv K T S H d Q → r x H Q
def Prim2 (K : PySem.W.Frag) (T : Tb) (r : R2) (g : D → D → Option D) : Prop := ∀ S H x y dx dy d Q, Same S H → RpH K T S H dx x → RpH K T S H dy y → g dx dy = some d → Gv K T S H d Q → r x y H Q
def PrimN (K : PySem.W.Frag) (T : Tb) (r : List V → Hp → VK → Prop) (g : List D → Option D) : Prop := ∀ S H xs ds d Q, Same S H → RpHs K T S H ds xs → g ds = some d → Gv K T S H d Q → r xs H Q
section
variable {K : PySem.W.Frag} {T : Tb} {W : WX} {β : Option Addr} {G S H : Hp} {σ : L2.St} {ρ : Rho} {Q : VK}
theorem Post.lift1 {g : D → Option D} {r : V → Hp → VK → Prop} {v : VD} {u : V} (hp : Prim1 K T r g) (o : Ok K T β G S σ ρ H) (h : RpV K T σ S v u) (p : Post K T W β G S σ (RpV K T σ) (lift1 g v ρ) Q) : r u H Q := by
  unfold Lq.lift1 at p
  split at p
  · rename_i x e
    split at p
    · rename_i d e2
      exact hp S H u x d Q o.sh (o.res h e) e2 (p.gv o)
    · exact p.elim
  · exact p.elim
theorem Post.lift2 {g : D → D → Option D} {r : R2} {v w : VD} {u z : V} (hp : Prim2 K T r g) (o : Ok K T β G S σ ρ H) (h : RpV K T σ S v u) (h2 : RpV K T σ S w z) (p : Post K T W β G S σ (RpV K T σ) (lift2 g v w ρ) Q) : r u z H Q := by
  unfold Lq.lift2 at p
  split at p
  · rename_i x y e e'
    split at p
    · rename_i d e2
      exact hp S H u z x y d Q o.sh (o.res h e) (o.res h2 e') e2 (p.gv o)
    · exact p.elim
  · exact p.elim
theorem Post.liftN {g : List D → Option D} {r : List V → Hp → VK → Prop} {vs : List VD} {us : List V} (hp : PrimN K T r g) (o : Ok K T β G S σ ρ H) (h : RpVs K T σ S vs us) (p : Post K T W β G S σ (RpV K T σ) (liftN g vs ρ) Q) : r us H Q := by
  unfold Lq.liftN at p
  split at p
  · rename_i xs e
    split at p
    · rename_i d e2
      exact hp S H us xs d Q o.sh (o.resAll h e) e2 (p.gv o)
    · exact p.elim
  · exact p.elim
theorem tOp_of {g : D → D → Option D} {r : R2} {fa fb : Rho → R VD} (hp : Prim2 K T r g) (h : rE K T W (op2E g fa fb) σ H Q) : tOp r (rE K T W fa) (rE K T W fb) σ H Q := by
  obtain ⟨β, G, S, ρ, o, p⟩ := h
  refine ⟨β, G, S, ρ, o, Post.thn (Rl := RpV K T σ) p fun S1 H1 ρ1 v u e1 o1 h1 p1 => ?_⟩
  refine ⟨β, G, S1, ρ1, o1, Post.thn (Rl := RpV K T σ) p1 fun S2 H2 ρ2 w z e2 o2 h2 p2 => ?_⟩
  exact Post.lift2 hp o2 (h1.mono e2) h2 p2
theorem tUn_of {g : D → Option D} {r : V → Hp → VK → Prop} {fa : Rho → R VD} (hp : Prim1 K T r g) (h : rE K T W (op1E g fa) σ H Q) : tUn r (rE K T W fa) σ H Q := by
  obtain ⟨β, G, S, ρ, o, p⟩ := h
  exact ⟨β, G, S, ρ, o, Post.thn (Rl := RpV K T σ) p fun S1 H1 ρ1 v u e1 o1 h1 p1 => Post.lift1 hp o1 h1 p1⟩
theorem tCB_of {g : List D → Option D} {r : List V → Hp → VK → Prop} {fa : Rho → R (List VD)} (hp : PrimN K T r g) (h : rE K T W (opNE g fa) σ H Q) : tCB r (rA K T W fa) σ H Q := by
  obtain ⟨β, G, S, ρ, o, p⟩ := h
  exact ⟨β, G, S, ρ, o, Post.thn (Rl := RpVs K T σ) p fun S1 H1 ρ1 v u e1 o1 h1 p1 => Post.liftN hp o1 h1 p1⟩
end

/-! ### expressions -/
section
variable {X : Cx} {T : Tb} {W : WX} {a b c e : Expr} {es : List Expr} {fa fb fc : Rho → R VD} {fs : Rho → R (List VD)} {ft fu : Rho → R Bool} {pos : Pos}
theorem xe_name (i : Nat) {x : Str} (hN : X.N[i]? = some x := by rfl) (hv : Vis X.env.scope x := by first | exact Or.inl rfl | exact Or.inr (Or.inl rfl) | exact Or.inr (Or.inr rfl)) (hd : (x == ("__debug__" : Str)) = false := by decide)
    (hcd : (x == ("__classdict__" : Str)) = false := by decide) : XE X T W (.Name x pos) (nameE i) := by
  refine (pe_var hN hv hd hcd).impQ fun σ H Q h => ?_
  obtain ⟨β, G, S, ρ, o, p⟩ := h
  unfold nameE at p
  split at p
  · rename_i x q
    obtain ⟨u, e1, r⟩ := o.cel i _ q
    exact ⟨u, e1, p S H u (Same.refl _) o r⟩
  · rename_i x q
    obtain ⟨a, vs, e1, _⟩ := o.cel i _ q
    exact ⟨.ref a, e1, p S H (.ref a) (Same.refl _) o e1⟩
  · rename_i x q
    obtain ⟨a, e1, _⟩ := o.cel i _ q
    exact ⟨.ref a, e1, p S H (.ref a) (Same.refl _) o e1⟩
  · exact p.elim
theorem const_of {K : PySem.W.Frag} {d : D} {v : V} {σ : L2.St} {H : Hp} {Q : VK} (hr : ∀ S, Rp K T S d v) (h : rE K T W (constE d) σ H Q) : Q v H := by
  obtain ⟨β, G, S, ρ, o, p⟩ := h
  exact p S H v (Same.refl _) o (hr S)
theorem xe_int {i : Int} {j : Nat} : XE X T W (.Constant (.int i) j pos) (constE (.int i)) := pe_int.impQ fun _ _ _ h => const_of (K := X.K) (d := .int i) (fun _ => rfl) h
theorem xe_bl {i : Bool} {j : Nat} : XE X T W (.Constant (.bool i) j pos) (constE (.bl i)) := pe_bl.impQ fun _ _ _ h => const_of (K := X.K) (d := .bl i) (fun _ => rfl) h
theorem xe_str {i : Str} {j : Nat} : XE X T W (.Constant (.str i) j pos) (constE (.str i)) := pe_str.impQ fun _ _ _ h => const_of (K := X.K) (d := .str i) (fun _ => rfl) h
theorem xe_non {j : Nat} : XE X T W (.Constant .none j pos) (constE .non) := pe_non.impQ fun _ _ _ h => const_of (K := X.K) (d := .non) (fun _ => rfl) h
/-- a constant of the module -/
theorem xe_glob {x : Str} {d : D} {v : V} {u : Value} (hg : Gl X x) (hm : X.mg x = some u) (r : RelV v u) (hr : ∀ S, Rp X.K T S d v) (hd : (x == ("__debug__" : Str)) = false := by decide) : XE X T W (.Name x pos) (constE d) :=
  (pe_glob hg hm r hd).impQ fun _ _ _ h => const_of hr h
theorem xe_op {op : Operator} {r : R2} {g : D → D → Option D} (ho : OpR X (binaryOp op) r) (hp : Prim2 X.K T r g) (ha : XE X T W a fa) (hb : XE X T W b fb) : XE X T W (.BinOp a op b pos) (op2E g fa fb) :=
  (pe_op ho ha hb).impQ fun _ _ _ h => tOp_of hp h
theorem xe_cmp {op : CmpOp} {r : R2} {g : D → D → Option D} (ho : OpR X (compareOp op) r) (hp : Prim2 X.K T r g) (ha : XE X T W a fa) (hb : XE X T W b fb) (hm : behindInMarks op b = false := by first | exact nomark _ | rfl) : XE X T W (.Compare a [op] [b] pos) (op2E g fa fb) :=
  (pe_cmpR ho ha hb hm).impQ fun _ _ _ h => tOp_of hp h
theorem xe_un {op : UnaryOp} {r : V → Hp → VK → Prop} {g : D → Option D} (ho : UnR X (unaryOp op) r) (hp : Prim1 X.K T r g) (ha : XE X T W a fa) : XE X T W (.UnaryOp op a pos) (op1E g fa) :=
  (pe_un ho ha).impQ fun _ _ _ h => tUn_of hp h
theorem xe_ix {r : R2} {g : D → D → Option D} (ho : IxR X r) (hp : Prim2 X.K T r g) (ha : XE X T W a fa) (hb : XE X T W b fb) (hs : PlainIx b := by exact fun _ _ => rfl) : XE X T W (.Subscript a b pos) (op2E g fa fb) :=
  (pe_ix ho ha hb hs).impQ fun _ _ _ h => tOp_of hp h

/-! ### tests -/
def cmpT (g : D → D → Option D) (fa fb : Rho → R VD) : Rho → R Bool := fun ρ => (op2E g fa fb ρ).bind fun v ρ1 => match v with | .d (.bl k) => .ok k ρ1 | _ => .bad
def valT (fa : Rho → R VD) : Rho → R Bool := fun ρ => (fa ρ).bind fun v ρ1 => match v with | .d (.bl k) => .ok k ρ1 | _ => .bad
theorem valT_of {K : PySem.W.Frag} {t : TE} {σ : L2.St} {H : Hp} {Q : Bool → Hp → Prop} (ht : ∀ Q', rE K T W fa σ H Q' → t σ H Q') (h : rT K T W (valT fa) σ H Q) : t σ H fun x H1 => ∃ k, x = .bl k ∧ Q k H1 := by
  obtain ⟨β, G, S, ρ, o, p⟩ := h
  refine ht _ ⟨β, G, S, ρ, o, Post.thn (Rl := RpV K T σ) p fun S1 H1 ρ1 v u e1 o1 h1 p1 => ?_⟩
  split at p1
  · rename_i k
    exact ⟨k, h1, p1 S1 H1 k (Same.refl _) o1 rfl⟩
  · exact p1.elim
theorem xt_cmp {op : CmpOp} {r : R2} {g : D → D → Option D} (ho : OpR X (compareOp op) r) (hp : Prim2 X.K T r g) (ha : XE X T W a fa) (hb : XE X T W b fb) (hm : behindInMarks op b = false := by first | exact nomark _ | rfl) : XT X T W (.Compare a [op] [b] pos) (valT (op2E g fa fb)) :=
  (pt_cmpR ho ha hb hm).impQ fun σ H Q h => valT_of (t := tOp r (rE X.K T W fa) (rE X.K T W fb)) (fun _ q => tOp_of hp q) h
theorem xt_val (he : XE X T W e fa) (hw : ∀ whole, isTrue e X.env whole = (do let v ← whole; standAt e.pos; holding [v] (truthy v)) := by intro _; rfl) : XT X T W e (valT fa) :=
  (pt_val he hw).impQ fun σ H Q h => valT_of (t := rE X.K T W fa) (fun _ q => q) h
def notT (ft : Rho → R Bool) : Rho → R Bool := fun ρ => (ft ρ).bind fun k ρ1 => .ok (!k) ρ1
def andT (ft fu : Rho → R Bool) : Rho → R Bool := fun ρ => (ft ρ).bind fun k ρ1 => if k then fu ρ1 else .ok false ρ1
def orT (ft fu : Rho → R Bool) : Rho → R Bool := fun ρ => (ft ρ).bind fun k ρ1 => if k then .ok true ρ1 else fu ρ1
theorem xt_not (h : XT X T W a ft) : XT X T W (.UnaryOp .Not a pos) (notT ft) := (pt_not h).impQ fun σ H Q h => by
  obtain ⟨β, G, S, ρ, o, p⟩ := h
  exact ⟨β, G, S, ρ, o, Post.thn (Rl := fun _ (b c : Bool) => b = c) p fun S1 H1 ρ1 v u e1 o1 h1 p1 => by subst h1; exact p1 S1 H1 _ (Same.refl _) o1 rfl⟩
def XW (X : Cx) (T : Tb) (W : WX) (e : Expr) (f : Rho → R Bool) : Prop := PW X e (rT X.K T W f)
theorem _root_.L2.PW.impQ {X : Cx} {e : Expr} {t t' : TT} (h : PW X e t) (i : ∀ σ H Q, t' σ H Q → t σ H Q) : PW X e t' := ⟨fun wh pins s σ H Q I w => h.run wh pins s σ H Q I (i σ H Q w)⟩
theorem XW.xt (h : XW X T W e ft) : XT X T W e ft := L2.PW.pt h
theorem xw_and1 (h : XT X T W a ft) : XW X T W (.BoolOp .And [a] pos) ft := pw_and1 h
theorem xw_or1 (h : XT X T W a ft) : XW X T W (.BoolOp .Or [a] pos) ft := pw_or1 h
theorem xw_and (h : XT X T W a ft) (h2 : XW X T W (.BoolOp .And (b :: es) pos) fu) : XW X T W (.BoolOp .And (a :: b :: es) pos) (andT ft fu) := (pw_and h h2).impQ fun σ H Q h => by
  obtain ⟨β, G, S, ρ, o, p⟩ := h
  refine ⟨β, G, S, ρ, o, Post.thn (Rl := fun _ (b c : Bool) => b = c) p fun S1 H1 ρ1 v u e1 o1 h1 p1 => ?_⟩
  subst h1
  cases v with
  | true => exact iteT ⟨β, G, S1, ρ1, o1, p1⟩
  | false => exact iteF (p1 S1 H1 _ (Same.refl _) o1 rfl)
theorem xw_or (h : XT X T W a ft) (h2 : XW X T W (.BoolOp .Or (b :: es) pos) fu) : XW X T W (.BoolOp .Or (a :: b :: es) pos) (orT ft fu) := (pw_or h h2).impQ fun σ H Q h => by
  obtain ⟨β, G, S, ρ, o, p⟩ := h
  refine ⟨β, G, S, ρ, o, Post.thn (Rl := fun _ (b c : Bool) => b = c) p fun S1 H1 ρ1 v u e1 o1 h1 p1 => ?_⟩
  subst h1
  cases v with
  | true => exact iteT (p1 S1 H1 _ (Same.refl _) o1 rfl)
  | false => exact iteF ⟨β, G, S1, ρ1, o1, p1⟩
/-- .. as values: the left one a truth value -/
def andE (fa fb : Rho → R VD) : Rho → R VD := fun ρ => (fa ρ).bind fun v ρ1 => match v with | .d (.bl true) => fb ρ1 | .d (.bl false) => .ok (.d (.bl false)) ρ1 | _ => .bad
def orE (fa fb : Rho → R VD) : Rho → R VD := fun ρ => (fa ρ).bind fun v ρ1 => match v with | .d (.bl true) => .ok (.d (.bl true)) ρ1 | .d (.bl false) => fb ρ1 | _ => .bad
def notE (fa : Rho → R VD) : Rho → R VD := fun ρ => (fa ρ).bind fun v ρ1 => match v with | .d (.bl k) => .ok (.d (.bl (!k))) ρ1 | _ => .bad
theorem xe_one {op : BoolOp} (h : XE X T W a fa) : XE X T W (.BoolOp op [a] pos) fa := pe_one h
theorem xe_and (h : XE X T W a fa) (h2 : XE X T W (.BoolOp .And (b :: es) pos) fb) : XE X T W (.BoolOp .And (a :: b :: es) pos) (andE fa fb) := (pe_and h h2).impQ fun σ H Q h => by
  obtain ⟨β, G, S, ρ, o, p⟩ := h
  refine ⟨β, G, S, ρ, o, Post.thn (Rl := RpV X.K T σ) p fun S1 H1 ρ1 v u e1 o1 h1 p1 => ?_⟩
  split at p1
  · exact ⟨true, h1, iteT ⟨β, G, S1, ρ1, o1, p1⟩⟩
  · exact ⟨false, h1, iteF (p1 S1 H1 (.bl false) (Same.refl _) o1 rfl)⟩
  · exact p1.elim
theorem xe_or (h : XE X T W a fa) (h2 : XE X T W (.BoolOp .Or (b :: es) pos) fb) : XE X T W (.BoolOp .Or (a :: b :: es) pos) (orE fa fb) := (pe_or h h2).impQ fun σ H Q h => by
  obtain ⟨β, G, S, ρ, o, p⟩ := h
  refine ⟨β, G, S, ρ, o, Post.thn (Rl := RpV X.K T σ) p fun S1 H1 ρ1 v u e1 o1 h1 p1 => ?_⟩
  split at p1
  · exact ⟨true, h1, iteT (p1 S1 H1 (.bl true) (Same.refl _) o1 rfl)⟩
  · exact ⟨false, h1, iteF ⟨β, G, S1, ρ1, o1, p1⟩⟩
  · exact p1.elim
theorem xe_not (h : XE X T W a fa) : XE X T W (.UnaryOp .Not a pos) (notE fa) := (pe_not h).impQ fun σ H Q h => by
  obtain ⟨β, G, S, ρ, o, p⟩ := h
  refine ⟨β, G, S, ρ, o, Post.thn (Rl := RpV X.K T σ) p fun S1 H1 ρ1 v u e1 o1 h1 p1 => ?_⟩
  split at p1
  · rename_i k
    exact ⟨k, h1, p1 S1 H1 (.bl (!k)) (Same.refl _) o1 rfl⟩
  · exact p1.elim
def ifE (ft : Rho → R Bool) (fa fb : Rho → R VD) : Rho → R VD := fun ρ => (ft ρ).bind fun k ρ1 => if k then fa ρ1 else fb ρ1
theorem xe_if (hc : XT X T W c ft) (ha : XE X T W a fa) (hb : XE X T W b fb) : XE X T W (.IfExp c a b pos) (ifE ft fa fb) := (pe_ifExp hc ha hb).impQ fun σ H Q h => by
  obtain ⟨β, G, S, ρ, o, p⟩ := h
  refine ⟨β, G, S, ρ, o, Post.thn (Rl := fun _ (b c : Bool) => b = c) p fun S1 H1 ρ1 v u e1 o1 h1 p1 => ?_⟩
  subst h1
  cases v with
  | true => exact iteT ⟨β, G, S1, ρ1, o1, p1⟩
  | false => exact iteF ⟨β, G, S1, ρ1, o1, p1⟩

/-! ### arguments -/
def nilA : Rho → R (List VD) := fun ρ => .ok [] ρ
def consA (fa : Rho → R VD) (fs : Rho → R (List VD)) : Rho → R (List VD) := fun ρ => (fa ρ).bind fun v ρ1 => (fs ρ1).bind fun vs ρ2 => .ok (v :: vs) ρ2
theorem xa_nil : XA X T W [] nilA := pa_nil.impQ fun σ H Q h => by
  obtain ⟨β, G, S, ρ, o, p⟩ := h
  exact p S H [] (Same.refl _) o rfl
theorem xa_cons (ha : XE X T W e fa) (hs : XA X T W es fs) (hst : starEach (e :: es) X.env = (false, eval e X.env) :: starEach es X.env := by rfl) : XA X T W (e :: es) (consA fa fs) := (pa_cons ha hs hst).impQ fun σ H Q h => by
  obtain ⟨β, G, S, ρ, o, p⟩ := h
  refine ⟨β, G, S, ρ, o, Post.thn (Rl := RpV X.K T σ) p fun S1 H1 ρ1 v u e1 o1 h1 p1 => ?_⟩
  refine ⟨β, G, S1, ρ1, o1, Post.thn (Rl := RpVs X.K T σ) p1 fun S2 H2 ρ2 vs us e2 o2 h2 p2 => ?_⟩
  exact p2 S2 H2 _ (Same.refl _) o2 ⟨u, us, rfl, h1.mono e2, h2⟩
/-- a built-in by its name, a built-in class -/
theorem xe_callB {id : String} {r : List V → Hp → VK → Prop} {g : List D → Option D} {x : Str} {p : Pos} (hc : CallR X (.builtin id) r) (hp : PrimN X.K T r g) (hm : X.mg x = none) (hv : bootBuiltins x = some (.builtin id)) (ha : XA X T W (e :: es) fs) (hg : Gl X x := by rfl) (hn : x ≠ "__name__" := by decide) (hdb : (x == ("__debug__" : Str)) = false := by decide)
    (he : starEach (e :: es) X.env = (false, eval e X.env) :: starEach es X.env := by rfl) (hpl : (backTo pos (starEach es X.env)).any (·.1) = false := by rfl) : XE X T W (.Call (.Name x p) (e :: es) [] pos) (opNE g fs) :=
  (pe_callB hc hg hm hv ha hn hdb he hpl).impQ fun _ _ _ h => tCB_of hp h
theorem xe_callTy {id : String} {r : List V → Hp → VK → Prop} {g : List D → Option D} {x : Str} {p : Pos} (hc : CallR X (.type id) r) (hp : PrimN X.K T r g) (hm : X.mg x = none) (hv : bootBuiltins x = some (.type id)) (ha : XA X T W (e :: es) fs) (hg : Gl X x := by rfl) (hn : x ≠ "__name__" := by decide) (hdb : (x == ("__debug__" : Str)) = false := by decide)
    (he : starEach (e :: es) X.env = (false, eval e X.env) :: starEach es X.env := by rfl) (hpl : (backTo pos (starEach es X.env)).any (·.1) = false := by rfl) : XE X T W (.Call (.Name x p) (e :: es) [] pos) (opNE g fs) :=
  (pe_callTy hc hg hm hv ha hn hdb he hpl).impQ fun _ _ _ h => tCB_of hp h
/-- a method of a built-in type -/
def mtE (g : D → List D → Option D) (fo : Rho → R VD) (fs : Rho → R (List VD)) : Rho → R VD := fun ρ => (fo ρ).bind fun v ρ1 => (fs ρ1).bind fun vs ρ2 => match res v ρ2, resAll vs ρ2 with
  | some x, some xs => (match g x xs with | some d => .ok (.d d) ρ2 | none => .bad)
  | _, _ => .bad
def PrimM (K : PySem.W.Frag) (T : Tb) (r : V → List V → Hp → VK → Prop) (g : D → List D → Option D) : Prop := ∀ S H x xs dx ds d Q, Same S H → RpH K T S H dx x → RpHs K T S H ds xs → g dx ds = some d → Gv K T S H d Q → r x xs H Q
end
end Lq
namespace Lq
open PySem PySem.Spec PyProof.Rows L2
section
variable {K : PySem.W.Frag} {T : Tb} {W : WX} {β : Option Addr} {G S S' H : Hp} {σ : L2.St} {ρ : Rho}
/-- nobody has p -/
structure Fre (β : Option Addr) (G S : Hp) (σ : L2.St) (ρ : Rho) (p : Addr) : Prop where
  s : S p = none
  g : G p = none
  b : β ≠ some p
  sl : ∀ (i : Nat) (xs : List D), ρ[i]? = some (.m xs) → σ[i]? ≠ some (some (.ref p))
theorem Ok.fre (o : Ok K T β G S σ ρ H) {p : Addr} (h : H p = none) : Fre β G S σ ρ p where
  s := o.sh.free h
  g := o.gh.free h
  b := fun e => by obtain ⟨ns, q⟩ := o.bx p e; rw [h] at q; cases q
  sl := fun i xs e q => by
    obtain ⟨a, vs, e1, e2, _⟩ := o.cel i _ e
    rw [e1] at q; cases q; rw [h] at e2; cases e2
theorem Fre.ext {H' : Hp} {p : Addr} (f : Fre β G S σ ρ p) (e : S' p = none) : Fre β G S' σ ρ p := ⟨e, f.g, f.b, f.sl⟩
theorem Ok.freeze (o : Ok K T β G S σ ρ H) {p : Addr} {u : HO} (f : Fre β G S σ ρ p) (h : H p = some u) : Ok K T β G (upd S p u) σ ρ H where
  sh := fun b v q => by
    by_cases hb : b = p
    · subst hb; rw [upd_same] at q; rw [← q]; exact h
    · rw [upd_ne hb] at q; exact o.sh b v q
  gh := o.gh
  gs := fun b v q => by rw [upd_ne (ne_of_none q f.g)]; exact o.gs b v q
  gb := fun b q => ⟨(o.gb b q).1, by have hb : b ≠ p := fun z => f.b (by rw [q, z]); rw [upd_ne hb]; exact (o.gb b q).2⟩
  bx := o.bx
  len := o.len
  cel := fun i c q => by
    have h1 := o.cel i c q
    cases c with
    | no => trivial
    | d x => obtain ⟨v, e1, r⟩ := h1; exact ⟨v, e1, Rp.mono (same_new f.s) _ _ r⟩
    | m xs =>
      obtain ⟨a, vs, e1, e2, e3, e4, e5, r⟩ := h1
      refine ⟨a, vs, e1, e2, ?_, e4, e5, Rps.mono (same_new f.s) _ _ r⟩
      rw [upd_ne (fun z => f.sl i xs q (by rw [e1, z]))]; exact e3
    | b ns => exact h1
  dis := o.dis
theorem get_set_eq {α : Type} {l : List α} {i : Nat} {x y : α} (h : (l.set i x)[i]? = some y) : y = x := by
  by_cases hi : i < l.length
  · rw [List.getElem?_set_self hi] at h; exact (Option.some.inj h).symm
  · rw [List.getElem?_eq_none (by simpa using hi)] at h; cases h
theorem Ok.lt (o : Ok K T β G S σ ρ H) {i : Nat} {c : Cell} (h : ρ[i]? = some c) : i < σ.length := by
  rw [o.len]; exact (List.getElem?_eq_some_iff.mp h).1
theorem Ok.setD (o : Ok K T β G S σ ρ H) {i : Nat} {x : D} {v : V} (r : Rp K T S x v) : Ok K T β G S (σ.set i (some v)) (ρ.set i (.d x)) H where
  sh := o.sh
  gh := o.gh
  gs := o.gs
  gb := o.gb
  bx := o.bx
  len := by rw [List.length_set, List.length_set]; exact o.len
  cel := fun j c q => by
    by_cases hj : j = i
    · subst hj
      have hl : j < ρ.length := by have := (List.getElem?_eq_some_iff.mp q).1; rwa [List.length_set] at this
      have e := get_set_eq q
      subst e
      exact ⟨v, List.getElem?_set_self (by rw [o.len]; exact hl), r⟩
    · rw [List.getElem?_set_ne (Ne.symm hj)] at q ⊢
      exact o.cel j c q
  dis := fun j k xs ys q1 q2 e => by
    have h1 : j ≠ i := fun z => by subst z; cases get_set_eq q1
    have h2 : k ≠ i := fun z => by subst z; cases get_set_eq q2
    rw [List.getElem?_set_ne (Ne.symm h1)] at q1 e
    rw [List.getElem?_set_ne (Ne.symm h2)] at q2 e
    exact o.dis j k xs ys q1 q2 e
theorem Ok.setN (o : Ok K T β G S σ ρ H) {i : Nat} {v : Option V} : Ok K T β G S (σ.set i v) (ρ.set i .no) H where
  sh := o.sh
  gh := o.gh
  gs := o.gs
  gb := o.gb
  bx := o.bx
  len := by rw [List.length_set, List.length_set]; exact o.len
  cel := fun j c q => by
    by_cases hj : j = i
    · subst hj
      have e := get_set_eq q
      subst e
      trivial
    · rw [List.getElem?_set_ne (Ne.symm hj)] at q ⊢
      exact o.cel j c q
  dis := fun j k xs ys q1 q2 e => by
    have h1 : j ≠ i := fun z => by subst z; cases get_set_eq q1
    have h2 : k ≠ i := fun z => by subst z; cases get_set_eq q2
    rw [List.getElem?_set_ne (Ne.symm h1)] at q1 e
    rw [List.getElem?_set_ne (Ne.symm h2)] at q2 e
    exact o.dis j k xs ys q1 q2 e
theorem Ok.setM (o : Ok K T β G S σ ρ H) {i : Nat} {p : Addr} {xs : List D} {vs : List V} (f : Fre β G S σ ρ p) (h : H p = some (.lst vs)) (r : Rps K T S xs vs) : Ok K T β G S (σ.set i (some (.ref p))) (ρ.set i (.m xs)) H where
  sh := o.sh
  gh := o.gh
  gs := o.gs
  gb := o.gb
  bx := o.bx
  len := by rw [List.length_set, List.length_set]; exact o.len
  cel := fun j c q => by
    by_cases hj : j = i
    · subst hj
      have hl : j < ρ.length := by have := (List.getElem?_eq_some_iff.mp q).1; rwa [List.length_set] at this
      have e := get_set_eq q
      subst e
      exact ⟨p, vs, List.getElem?_set_self (by rw [o.len]; exact hl), h, f.s, f.g, f.b, r⟩
    · rw [List.getElem?_set_ne (Ne.symm hj)] at q ⊢
      exact o.cel j c q
  dis := fun j k ys zs q1 q2 e => by
    by_cases h1 : j = i
    · by_cases h2 : k = i
      · rw [h1, h2]
      · exfalso
        subst h1
        have hl : j < σ.length := by have := (List.getElem?_eq_some_iff.mp q1).1; rw [List.length_set] at this; rw [o.len]; exact this
        rw [List.getElem?_set_ne (Ne.symm h2)] at q2 e
        rw [List.getElem?_set_self hl] at e
        exact f.sl k zs q2 e.symm
    · by_cases h2 : k = i
      · exfalso
        subst h2
        have hl : k < σ.length := by have := (List.getElem?_eq_some_iff.mp q2).1; rw [List.length_set] at this; rw [o.len]; exact this
        rw [List.getElem?_set_ne (Ne.symm h1)] at q1 e
        rw [List.getElem?_set_self hl] at e
        exact f.sl j ys q1 e
      · rw [List.getElem?_set_ne (Ne.symm h1)] at q1 e
        rw [List.getElem?_set_ne (Ne.symm h2)] at q2 e
        exact o.dis j k ys zs q1 q2 e

/-! ### a new list -/
def PostF (K : PySem.W.Frag) (T : Tb) (W : WX) (β : Option Addr) (G S : Hp) (σ : L2.St) (r : R (List D)) (Q : VK) : Prop := match r with
  | .ok ds ρ' => ∀ S' H' p vs, Same S S' → Ok K T β G S' σ ρ' H' → Fre β G S' σ ρ' p → H' p = some (.lst vs) → Rps K T S' ds vs → Q (.ref p) H'
  | .err x ρ' => ∀ S' H' c d, Same S S' → Ok K T β G S' σ ρ' H' → XR K T S' x c d → W c d σ H'
  | .bad => False
def rF (K : PySem.W.Frag) (T : Tb) (W : WX) (f : Rho → R (List D)) : TE := fun σ H Q => ∃ β G S ρ, Ok K T β G S σ ρ H ∧ PostF K T W β G S σ (f ρ) Q
def XF (X : Cx) (T : Tb) (W : WX) (e : Expr) (f : Rho → R (List D)) : Prop := PE X e (rF X.K T W f)
theorem PostF.mono {r : R (List D)} {Q : VK} (h : PostF K T W β G S σ r Q) (e : Same S S') : PostF K T W β G S' σ r Q := by
  cases r with
  | ok a ρ' => exact fun S2 H2 p vs e2 o => h S2 H2 p vs (e.trans e2) o
  | err x ρ' => exact fun S2 H2 c d e2 o => h S2 H2 c d (e.trans e2) o
  | bad => exact h
theorem PostF.thn {α γ : Type} {Rl : Hp → α → γ → Prop} {r : R α} {k : α → Rho → R (List D)} {Q : VK} {Q' : γ → Hp → Prop} (h : PostF K T W β G S σ (r.bind k) Q)
    (f : ∀ S1 H1 ρ1 a u, Same S S1 → Ok K T β G S1 σ ρ1 H1 → Rl S1 a u → PostF K T W β G S1 σ (k a ρ1) Q → Q' u H1) : Post K T W β G S σ Rl r Q' := by
  cases r with
  | ok a ρ' => exact fun S1 H1 u e o q => f S1 H1 ρ' a u e o q (PostF.mono h e)
  | err x ρ' => exact h
  | bad => exact h.elim
theorem PostF.gf {ds : List D} {Q : VK} (h : PostF K T W β G S σ (.ok ds ρ) Q) (o : Ok K T β G S σ ρ H) : Gf K T S H ds Q :=
  fun S' H' p vs e hp sp hv r => h S' H' p vs e.s (o.ext e) ((o.fre hp).ext (H' := H') sp) hv r
def frzE (f : Rho → R (List D)) : Rho → R VD := fun ρ => (f ρ).bind fun ds ρ1 => .ok (.d (.lst ds)) ρ1
theorem XF.xe {X : Cx} {e : Expr} {f : Rho → R (List D)} (h : XF X T W e f) : XE X T W e (frzE f) := L2.PE.impQ h fun σ H Q h => by
  obtain ⟨β, G, S, ρ, o, p⟩ := h
  refine ⟨β, G, S, ρ, o, ?_⟩
  unfold frzE at p
  revert p
  cases f ρ with
  | ok ds ρ1 => exact fun p S' H' q vs e o' fr hv r => p (upd S' q (.lst vs)) H' (.ref q) (e.trans (same_new fr.s)) (o'.freeze fr hv) ⟨q, vs, rfl, upd_same, Rps.mono (same_new fr.s) _ _ r⟩
  | err x ρ1 => exact fun p => p
  | bad => exact fun p => p
/-- data of all the values: no slot's own list among them -/
def datAll : List VD → Option (List D)
  | [] => some []
  | .d x :: vs => (match datAll vs with | some xs => some (x :: xs) | none => none)
  | .sl _ :: _ => none
theorem datAll_rps : ∀ {vs : List VD} {us : List V} {ds : List D}, datAll vs = some ds → RpVs K T σ S vs us → Rps K T S ds us
  | [], _, _, e, h => by simp only [datAll, Option.some.injEq] at e; subst e; exact h
  | .d x :: vs, _, _, e, ⟨u, r, e1, h, hs⟩ => by
    simp only [datAll] at e
    split at e
    · rename_i xs q; cases e; exact ⟨u, r, e1, h, datAll_rps q hs⟩
    · cases e
  | .sl _ :: _, _, _, e, _ => by simp only [datAll] at e; cases e
def fits (n : Nat) : Bool := decide (n ≤ 1000000)
theorem fits_line {n : Nat} (h : fits n = true) : n ≤ sizeLine := Nat.le_trans (of_decide_eq_true h) (by rw [sizeLine_eq]; decide)
theorem fits_lt {n : Nat} (h : fits n = true) : n < sizeLine := Nat.lt_of_le_of_lt (of_decide_eq_true h) (by rw [sizeLine_eq]; decide)
def lstF (fs : Rho → R (List VD)) : Rho → R (List D) := fun ρ => (fs ρ).bind fun vs ρ1 => match datAll vs with | some ds => if fits ds.length then .ok ds ρ1 else .bad | none => .bad
def tupE (fs : Rho → R (List VD)) : Rho → R VD := fun ρ => (fs ρ).bind fun vs ρ1 => match datAll vs with | some ds => if fits ds.length then .ok (.d (.tup ds)) ρ1 else .bad | none => .bad
theorem xf_lst {X : Cx} {es : List Expr} {pos : Pos} {fs : Rho → R (List VD)} (h : XA X T W es fs) : XF X T W (.List es pos) (lstF fs) := (pe_lst h).impQ fun σ H Q h => by
  obtain ⟨β, G, S, ρ, o, p⟩ := h
  refine ⟨β, G, S, ρ, o, PostF.thn (Rl := RpVs X.K T σ) p fun S1 H1 ρ1 vs us e1 o1 h1 p1 => ?_⟩
  split at p1
  · rename_i ds q
    split at p1
    · rename_i hf
      have r := datAll_rps q h1
      exact ⟨by rw [r.len]; exact fits_line hf, fun a ha => (p1.gf o1).new o1.sh r a ha⟩
    · exact p1.elim
  · exact p1.elim
theorem xe_tup {X : Cx} {es : List Expr} {pos : Pos} {k : Nat} {fs : Rho → R (List VD)} (h : XA X T W es fs) : XE X T W (.Tuple es k pos) (tupE fs) := (pe_tup h).impQ fun σ H Q h => by
  obtain ⟨β, G, S, ρ, o, p⟩ := h
  refine ⟨β, G, S, ρ, o, Post.thn (Rl := RpVs X.K T σ) p fun S1 H1 ρ1 vs us e1 o1 h1 p1 => ?_⟩
  split at p1
  · rename_i ds q
    split at p1
    · rename_i hf
      have r := datAll_rps q h1
      exact ⟨by rw [r.len]; exact fits_line hf, fun a ha => (p1.gv o1).newT o1.sh r a ha⟩
    · exact p1.elim
  · exact p1.elim
/-- operations that make a new list -/
def PrimNF (K : PySem.W.Frag) (T : Tb) (r : List V → Hp → VK → Prop) (g : List D → Option (List D)) : Prop := ∀ S H xs ds d Q, Same S H → RpHs K T S H ds xs → g ds = some d → Gf K T S H d Q → r xs H Q
def Prim2F (K : PySem.W.Frag) (T : Tb) (r : R2) (g : D → D → Option (List D)) : Prop := ∀ S H x y dx dy d Q, Same S H → RpH K T S H dx x → RpH K T S H dy y → g dx dy = some d → Gf K T S H d Q → r x y H Q
def opNF (g : List D → Option (List D)) (fs : Rho → R (List VD)) : Rho → R (List D) := fun ρ => (fs ρ).bind fun vs ρ1 => match resAll vs ρ1 with | some xs => (match g xs with | some d => .ok d ρ1 | none => .bad) | none => .bad
def op2F (g : D → D → Option (List D)) (fa fb : Rho → R VD) : Rho → R (List D) := fun ρ => (fa ρ).bind fun v ρ1 => (fb ρ1).bind fun w ρ2 => match res v ρ2, res w ρ2 with | some x, some y => (match g x y with | some d => .ok d ρ2 | none => .bad) | _, _ => .bad
theorem tCBF_of {g : List D → Option (List D)} {r : List V → Hp → VK → Prop} {fa : Rho → R (List VD)} {Q : VK} (hp : PrimNF K T r g) (h : rF K T W (opNF g fa) σ H Q) : tCB r (rA K T W fa) σ H Q := by
  obtain ⟨β, G, S, ρ, o, p⟩ := h
  refine ⟨β, G, S, ρ, o, PostF.thn (Rl := RpVs K T σ) p fun S1 H1 ρ1 v u e1 o1 h1 p1 => ?_⟩
  split at p1
  · rename_i xs e
    split at p1
    · rename_i d e2
      exact hp S1 H1 u xs d Q o1.sh (o1.resAll h1 e) e2 (p1.gf o1)
    · exact p1.elim
  · exact p1.elim
theorem tOpF_of {g : D → D → Option (List D)} {r : R2} {fa fb : Rho → R VD} {Q : VK} (hp : Prim2F K T r g) (h : rF K T W (op2F g fa fb) σ H Q) : tOp r (rE K T W fa) (rE K T W fb) σ H Q := by
  obtain ⟨β, G, S, ρ, o, p⟩ := h
  refine ⟨β, G, S, ρ, o, PostF.thn (Rl := RpV K T σ) p fun S1 H1 ρ1 v u e1 o1 h1 p1 => ?_⟩
  refine ⟨β, G, S1, ρ1, o1, PostF.thn (Rl := RpV K T σ) p1 fun S2 H2 ρ2 w z e2 o2 h2 p2 => ?_⟩
  split at p2
  · rename_i x y q q'
    split at p2
    · rename_i d e2'
      exact hp S2 H2 u z x y d Q o2.sh (o2.res (h1.mono e2) q) (o2.res h2 q') e2' (p2.gf o2)
    · exact p2.elim
  · exact p2.elim
end
section
variable {X : Cx} {T : Tb} {W : WX} {a b c e : Expr} {es : List Expr} {fa fb fc : Rho → R VD} {fs : Rho → R (List VD)} {ft fu : Rho → R Bool} {pos : Pos}
theorem xf_callTy {id : String} {r : List V → Hp → VK → Prop} {g : List D → Option (List D)} {x : Str} {p : Pos} (hc : CallR X (.type id) r) (hp : PrimNF X.K T r g) (hm : X.mg x = none) (hv : bootBuiltins x = some (.type id)) (ha : XA X T W (e :: es) fs) (hg : L2.Gl X x := by rfl) (hn : x ≠ "__name__" := by decide) (hdb : (x == ("__debug__" : Str)) = false := by decide)
    (he : starEach (e :: es) X.env = (false, eval e X.env) :: starEach es X.env := by rfl) (hpl : (backTo pos (starEach es X.env)).any (·.1) = false := by rfl) : XF X T W (.Call (.Name x p) (e :: es) [] pos) (opNF g fs) :=
  (pe_callTy hc hg hm hv ha hn hdb he hpl).impQ fun _ _ _ h => tCBF_of hp h
theorem xf_callB {id : String} {r : List V → Hp → VK → Prop} {g : List D → Option (List D)} {x : Str} {p : Pos} (hc : CallR X (.builtin id) r) (hp : PrimNF X.K T r g) (hm : X.mg x = none) (hv : bootBuiltins x = some (.builtin id)) (ha : XA X T W (e :: es) fs) (hg : L2.Gl X x := by rfl) (hn : x ≠ "__name__" := by decide) (hdb : (x == ("__debug__" : Str)) = false := by decide)
    (he : starEach (e :: es) X.env = (false, eval e X.env) :: starEach es X.env := by rfl) (hpl : (backTo pos (starEach es X.env)).any (·.1) = false := by rfl) : XF X T W (.Call (.Name x p) (e :: es) [] pos) (opNF g fs) :=
  (pe_callB hc hg hm hv ha hn hdb he hpl).impQ fun _ _ _ h => tCBF_of hp h
theorem xf_op {op : Operator} {r : R2} {g : D → D → Option (List D)} (ho : OpR X (binaryOp op) r) (hp : Prim2F X.K T r g) (ha : XE X T W a fa) (hb : XE X T W b fb) : XF X T W (.BinOp a op b pos) (op2F g fa fb) :=
  (pe_op ho ha hb).impQ fun _ _ _ h => tOpF_of hp h
end
end Lq
namespace Lq
open PySem PySem.Spec PyProof.Rows L2
/-! ### statements -/
inductive O where
  | nx (r : Rho)
  | rt (v : VD) (r : Rho)
  | rf (ds : List D) (r : Rho)
  | bk (r : Rho)
  | ct (r : Rho)
  | err (x : Xn) (r : Rho)
  | bad
def PostS (K : PySem.W.Frag) (T : Tb) (W : WX) (β : Option Addr) (G S : Hp) (r : O) (D : Ends) : Prop := match r with
  | .nx ρ' => ∀ S' σ' H', Same S S' → Ok K T β G S' σ' ρ' H' → D.nx σ' H'
  | .bk ρ' => ∀ S' σ' H', Same S S' → Ok K T β G S' σ' ρ' H' → D.bk σ' H'
  | .ct ρ' => ∀ S' σ' H', Same S S' → Ok K T β G S' σ' ρ' H' → D.ct σ' H'
  | .rt v ρ' => ∀ S' σ' H' u, Same S S' → Ok K T β G S' σ' ρ' H' → RpV K T σ' S' v u → D.rt u H'
  | .rf ds ρ' => ∀ S' σ' H' p vs, Same S S' → Ok K T β G S' σ' ρ' H' → Fre β G S' σ' ρ' p → H' p = some (.lst vs) → Rps K T S' ds vs → D.rt (.ref p) H'
  | .err x ρ' => ∀ S' σ' H' c d, Same S S' → Ok K T β G S' σ' ρ' H' → XR K T S' x c d → W c d σ' H'
  | .bad => False
def rS (K : PySem.W.Frag) (T : Tb) (W : WX) (f : Rho → O) : TS := fun D σ H => ∃ β G S ρ, Ok K T β G S σ ρ H ∧ PostS K T W β G S (f ρ) D
def XS (X : Cx) (T : Tb) (W : WX) (st : Stmt) (f : Rho → O) : Prop := PS X st (rS X.K T W f)
def XB (X : Cx) (T : Tb) (W : WX) (st : List Stmt) (f : Rho → O) : Prop := PSs X st (rS X.K T W f)
def R.thnO {α : Type} (r : R α) (k : α → Rho → O) : O := match r with
  | .ok a q => k a q
  | .err x q => .err x q
  | .bad => .bad
section
variable {K : PySem.W.Frag} {T : Tb} {W : WX} {β : Option Addr} {G S S' H : Hp} {σ : L2.St} {ρ : Rho} {De : Ends}
theorem PostS.mono {r : O} (h : PostS K T W β G S r De) (e : Same S S') : PostS K T W β G S' r De := by
  cases r with
  | nx ρ' => exact fun S2 s2 H2 e2 o => h S2 s2 H2 (e.trans e2) o
  | bk ρ' => exact fun S2 s2 H2 e2 o => h S2 s2 H2 (e.trans e2) o
  | ct ρ' => exact fun S2 s2 H2 e2 o => h S2 s2 H2 (e.trans e2) o
  | rt v ρ' => exact fun S2 s2 H2 u e2 o => h S2 s2 H2 u (e.trans e2) o
  | rf ds ρ' => exact fun S2 s2 H2 p vs e2 o => h S2 s2 H2 p vs (e.trans e2) o
  | err x ρ' => exact fun S2 s2 H2 c d e2 o => h S2 s2 H2 c d (e.trans e2) o
  | bad => exact h
theorem PostS.thn {α γ : Type} {Rl : Hp → α → γ → Prop} {r : R α} {k : α → Rho → O} {Q' : γ → Hp → Prop} (h : PostS K T W β G S (r.thnO k) De)
    (f : ∀ S1 H1 ρ1 a u, Same S S1 → Ok K T β G S1 σ ρ1 H1 → Rl S1 a u → PostS K T W β G S1 (k a ρ1) De → Q' u H1) : Post K T W β G S σ Rl r Q' := by
  cases r with
  | ok a ρ' => exact fun S1 H1 u e o q => f S1 H1 ρ' a u e o q (PostS.mono h e)
  | err x ρ' => exact fun S1 H1 c d e o q => h S1 σ H1 c d e o q
  | bad => exact h.elim
theorem PostS.thnF {r : R (List D)} {k : List D → Rho → O} {Q' : VK} (h : PostS K T W β G S (r.thnO k) De)
    (f : ∀ S1 H1 ρ1 ds p vs, Same S S1 → Ok K T β G S1 σ ρ1 H1 → Fre β G S1 σ ρ1 p → H1 p = some (.lst vs) → Rps K T S1 ds vs → PostS K T W β G S1 (k ds ρ1) De → Q' (.ref p) H1) : PostF K T W β G S σ r Q' := by
  cases r with
  | ok a ρ' => exact fun S1 H1 p vs e o fr hv q => f S1 H1 ρ' a p vs e o fr hv q (PostS.mono h e)
  | err x ρ' => exact fun S1 H1 c d e o q => h S1 σ H1 c d e o q
  | bad => exact h.elim
end
section
variable {X : Cx} {T : Tb} {W : WX} {a b c e : Expr} {es : List Expr} {fa fb fc : Rho → R VD} {fs : Rho → R (List VD)} {ft fu : Rho → R Bool} {pos : Pos} {st : Stmt} {sts : List Stmt} {g h : Rho → O}
def nextS : Rho → O := fun ρ => .nx ρ
def seqS (g h : Rho → O) : Rho → O := fun ρ => match g ρ with | .nx ρ1 => h ρ1 | r => r
theorem xb_nil : XB X T W [] nextS := pss_nil.impQ fun De σ H q => by
  obtain ⟨β, G, S, ρ, o, p⟩ := q
  exact p S σ H (Same.refl _) o
theorem xb_one (h1 : XS X T W st g) : XB X T W [st] g := pss_one h1
theorem xb_cons (h1 : XS X T W st g) (h2 : XB X T W sts h) : XB X T W (st :: sts) (seqS g h) := (pss_cons h1 h2).impQ fun De σ H q => by
  obtain ⟨β, G, S, ρ, o, p⟩ := q
  refine ⟨β, G, S, ρ, o, ?_⟩
  unfold seqS at p
  revert p
  cases g ρ with
  | nx ρ1 => exact fun p S1 σ1 H1 e o1 => ⟨β, G, S1, ρ1, o1, p.mono e⟩
  | rt v ρ1 => exact fun p => p
  | rf ds ρ1 => exact fun p => p
  | bk ρ1 => exact fun p => p
  | ct ρ1 => exact fun p => p
  | err x ρ1 => exact fun p => p
  | bad => exact fun p => p
theorem xs_pass : XS X T W (.Pass pos) nextS := ps_pass.impQ fun De σ H q => by
  obtain ⟨β, G, S, ρ, o, p⟩ := q
  exact p S σ H (Same.refl _) o
theorem xs_break : XS X T W (.Break pos) (fun ρ => .bk ρ) := ps_break.impQ fun De σ H q => by
  obtain ⟨β, G, S, ρ, o, p⟩ := q
  exact p S σ H (Same.refl _) o
theorem xs_continue : XS X T W (.Continue pos) (fun ρ => .ct ρ) := ps_continue.impQ fun De σ H q => by
  obtain ⟨β, G, S, ρ, o, p⟩ := q
  exact p S σ H (Same.refl _) o
def retS (fa : Rho → R VD) : Rho → O := fun ρ => (fa ρ).thnO fun v ρ1 => .rt v ρ1
theorem xs_ret (he : XE X T W e fa) : XS X T W (.Return (some e) pos) (retS fa) := (ps_ret he).impQ fun De σ H q => by
  obtain ⟨β, G, S, ρ, o, p⟩ := q
  exact ⟨β, G, S, ρ, o, PostS.thn (Rl := RpV X.K T σ) p fun S1 H1 ρ1 v u e1 o1 h1 p1 => p1 S1 σ H1 u (Same.refl _) o1 h1⟩
def retF (f : Rho → R (List D)) : Rho → O := fun ρ => (f ρ).thnO fun ds ρ1 => .rf ds ρ1
theorem xs_retF {f : Rho → R (List D)} (he : XF X T W e f) : XS X T W (.Return (some e) pos) (retF f) := (ps_ret he).impQ fun De σ H q => by
  obtain ⟨β, G, S, ρ, o, p⟩ := q
  exact ⟨β, G, S, ρ, o, PostS.thnF p fun S1 H1 ρ1 ds a vs e1 o1 fr hv h1 p1 => p1 S1 σ H1 a vs (Same.refl _) o1 fr hv h1⟩
theorem xs_retN : XS X T W (.Return none pos) (fun ρ => .rt (.d .non) ρ) := ps_retN.impQ fun De σ H q => by
  obtain ⟨β, G, S, ρ, o, p⟩ := q
  exact p S σ H .non (Same.refl _) o rfl
def dropS (fa : Rho → R VD) : Rho → O := fun ρ => (fa ρ).thnO fun _ ρ1 => .nx ρ1
theorem xs_expr (he : XE X T W e fa) (hs : swapsWith e none pos.line X.env = pure false := by rfl) : XS X T W (.Expr e pos) (dropS fa) := (ps_expr he hs).impQ fun De σ H q => by
  obtain ⟨β, G, S, ρ, o, p⟩ := q
  exact ⟨β, G, S, ρ, o, PostS.thn (Rl := RpV X.K T σ) p fun S1 H1 ρ1 v u e1 o1 h1 p1 => p1 S1 σ H1 (Same.refl _) o1⟩
def ifS (ft : Rho → R Bool) (g h : Rho → O) : Rho → O := fun ρ => (ft ρ).thnO fun k ρ1 => if k then g ρ1 else h ρ1
theorem xs_if {as bs : List Stmt} (hc : XT X T W c ft) (ha : XB X T W as g) (hb : XB X T W bs h) : XS X T W (.If c as bs pos) (ifS ft g h) := (ps_if hc ha hb).impQ fun De σ H q => by
  obtain ⟨β, G, S, ρ, o, p⟩ := q
  refine ⟨β, G, S, ρ, o, PostS.thn (Rl := fun _ (b c : Bool) => b = c) p fun S1 H1 ρ1 v u e1 o1 h1 p1 => ?_⟩
  subst h1
  cases v with
  | true => exact iteT ⟨β, G, S1, ρ1, o1, p1⟩
  | false => exact iteF ⟨β, G, S1, ρ1, o1, p1⟩
/-- x = e: data; a new list of its own -/
def asgS (i : Nat) (fa : Rho → R VD) : Rho → O := fun ρ => (fa ρ).thnO fun v ρ1 => match v with | .d x => .nx (ρ1.set i (.d x)) | .sl _ => .bad
def asgM (i : Nat) (f : Rho → R (List D)) : Rho → O := fun ρ => (f ρ).thnO fun ds ρ1 => .nx (ρ1.set i (.m ds))
theorem xs_set (i : Nat) {x : Str} {pos' : Pos} (hN : X.N.Nodup) (he : XE X T W e fa) (hi : X.N[i]? = some x := by rfl) (hx : Loc X.env.scope x := by first | exact Or.inl rfl | exact Or.inr rfl) (hs : swapsWith e (some (.Name x pos')) pos.line X.env = pure false := by rfl)
    (hf : X.fn x = true ∨ X.env.scope.names.lookup x = some .local := by first | exact .inl rfl | exact .inr rfl) : XS X T W (.Assign [.Name x pos'] e pos) (asgS i fa) := (ps_set hN hi hx he hs hf).impQ fun De σ H q => by
  obtain ⟨β, G, S, ρ, o, p⟩ := q
  refine ⟨β, G, S, ρ, o, PostS.thn (Rl := RpV X.K T σ) p fun S1 H1 ρ1 v u e1 o1 h1 p1 => ?_⟩
  split at p1
  · exact p1 S1 _ H1 (Same.refl _) (o1.setD h1)
  · exact p1.elim
theorem xs_setM (i : Nat) {x : Str} {pos' : Pos} {f : Rho → R (List D)} (hN : X.N.Nodup) (he : XF X T W e f) (hi : X.N[i]? = some x := by rfl) (hx : Loc X.env.scope x := by first | exact Or.inl rfl | exact Or.inr rfl) (hs : swapsWith e (some (.Name x pos')) pos.line X.env = pure false := by rfl)
    (hf : X.fn x = true ∨ X.env.scope.names.lookup x = some .local := by first | exact .inl rfl | exact .inr rfl) : XS X T W (.Assign [.Name x pos'] e pos) (asgM i f) := (ps_set hN hi hx he hs hf).impQ fun De σ H q => by
  obtain ⟨β, G, S, ρ, o, p⟩ := q
  exact ⟨β, G, S, ρ, o, PostS.thnF p fun S1 H1 ρ1 ds a vs e1 o1 fr hv h1 p1 => p1 S1 _ H1 (Same.refl _) (o1.setM fr hv h1)⟩

/-! ### targets -/
/-- what a target does with data -/
def rGt (K : PySem.W.Frag) (T : Tb) (gd : D → Rho → Option Rho) : TG := fun v σ H Q => ∃ β G S ρ x, Ok K T β G S σ ρ H ∧ Rp K T S x v ∧ match gd x ρ with
  | some ρ' => ∀ σ', Ok K T β G S σ' ρ' H → Q σ' H
  | none => False
def XG (X : Cx) (T : Tb) (tg : Expr) (gd : D → Rho → Option Rho) : Prop := PG X tg (rGt X.K T gd)
def nameG (i : Nat) : D → Rho → Option Rho := fun x ρ => some (ρ.set i (.d x))
theorem _root_.L2.PG.impQ {X : Cx} {e : Expr} {t t' : TG} (h : PG X e t) (i : ∀ v σ H Q, t' v σ H Q → t v σ H Q) : PG X e t' := ⟨fun pins s σ H v u Q I r w => h.run pins s σ H v u Q I r (i v σ H Q w)⟩
theorem _root_.L2.PGs.impQ {X : Cx} {e : List Expr} {t t' : TGs} (h : PGs X e t) (i : ∀ v σ H Q, t' v σ H Q → t v σ H Q) : PGs X e t' := ⟨fun pins s σ H v u Q I r w => h.run pins s σ H v u Q I r (i v σ H Q w)⟩
theorem xg_name (i : Nat) {x : Str} (hN : X.N.Nodup) (hi : X.N[i]? = some x := by rfl) (hx : Loc X.env.scope x := by first | exact Or.inl rfl | exact Or.inr rfl) (hf : X.fn x = true ∨ X.env.scope.names.lookup x = some .local := by first | exact .inl rfl | exact .inr rfl) : XG X T (.Name x pos) (nameG i) :=
  (pg_name hN hi hx hf).impQ fun v σ H Q q => by
    obtain ⟨β, G, S, ρ, x, o, r, p⟩ := q
    exact p _ (o.setD r)
def rGts (K : PySem.W.Frag) (T : Tb) (gd : List D → Rho → Option Rho) : TGs := fun vs σ H Q => ∃ β G S ρ xs, Ok K T β G S σ ρ H ∧ Rps K T S xs vs ∧ match gd xs ρ with
  | some ρ' => ∀ σ', Ok K T β G S σ' ρ' H → Q σ' H
  | none => False
def XGs (X : Cx) (T : Tb) (tg : List Expr) (gd : List D → Rho → Option Rho) : Prop := PGs X tg (rGts X.K T gd)
def nilG : List D → Rho → Option Rho := fun xs ρ => match xs with | [] => some ρ | _ => none
def consG (g : D → Rho → Option Rho) (gs : List D → Rho → Option Rho) : List D → Rho → Option Rho := fun xs ρ => match xs with
  | x :: r => (match g x ρ with | some ρ1 => gs r ρ1 | none => none)
  | [] => none
theorem xgs_nil : XGs X T [] nilG := pgs_nil.impQ fun vs σ H Q q => by
  obtain ⟨β, G, S, ρ, xs, o, r, p⟩ := q
  unfold nilG at p
  split at p
  · rename_i ρ' e
    split at e
    · cases e; exact ⟨r, p σ o⟩
    · cases e
  · exact p.elim
theorem xgs_cons {gd : D → Rho → Option Rho} {gds : List D → Rho → Option Rho} (h1 : XG X T e gd) (h2 : XGs X T es gds) (hs : (assignEach (e :: es) X.env).map (·.2) = assign e X.env :: (assignEach es X.env).map (·.2) := by rfl) : XGs X T (e :: es) (consG gd gds) :=
  (pgs_cons h1 h2 hs).impQ fun vs σ H Q q => by
    obtain ⟨β, G, S, ρ, xs, o, r, p⟩ := q
    unfold consG at p
    cases xs with
    | nil => exact p.elim
    | cons x xr =>
      obtain ⟨v, vr, e1, rx, rr⟩ := r
      refine ⟨v, vr, e1, β, G, S, ρ, x, o, rx, ?_⟩
      dsimp only at p
      cases q1 : gd x ρ with
      | none => rw [q1] at p; exact p.elim
      | some ρ1 =>
        rw [q1] at p
        dsimp only at p ⊢
        exact fun σ1 o1 => ⟨β, G, S, ρ1, xr, o1, rr, p⟩
def tupG (n : Nat) (gs : List D → Rho → Option Rho) : D → Rho → Option Rho := fun x ρ => match x with
  | .tup xs => if xs.length = n then gs xs ρ else none
  | .lst xs => if xs.length = n then gs xs ρ else none
  | _ => none
theorem _root_.L2.PG.orQ {X : Cx} {e : Expr} {t t' : TG} (h : PG X e t) (h' : PG X e t') : PG X e (fun v σ H Q => t v σ H Q ∨ t' v σ H Q) := ⟨fun pins s σ H v u Q I r w => by
  rcases w with w | w
  · exact h.run pins s σ H v u Q I r w
  · exact h'.run pins s σ H v u Q I r w⟩
theorem xg_tup {k n : Nat} {gds : List D → Rho → Option Rho} (hc : X.calm = true) (h : XGs X T es gds) (hn : (assignEach es X.env).length = n := by rfl) (hst : (assignEach es X.env).findIdx? (·.1) = none := by rfl) : XG X T (.Tuple es k pos) (tupG n gds) :=
  ((pg_tup hc h hn hst).orQ (pg_unl hc h hn hst)).impQ fun v σ H Q q => by
    obtain ⟨β, G, S, ρ, x, o, r, p⟩ := q
    unfold tupG at p
    cases x with
    | tup xs =>
      obtain ⟨a, vs, e1, q, rr⟩ := r
      dsimp only at p
      by_cases hl : xs.length = n
      · rw [if_pos hl] at p
        exact .inl ⟨a, vs, e1, same_tup o.sh q, rr.len.trans hl, β, G, S, ρ, xs, o, rr, p⟩
      · rw [if_neg hl] at p; exact p.elim
    | lst xs =>
      obtain ⟨a, vs, e1, q, rr⟩ := r
      dsimp only at p
      by_cases hl : xs.length = n
      · rw [if_pos hl] at p
        exact .inr ⟨a, vs, e1, SqL.of (o.sh _ _ q), rr.len.trans hl, β, G, S, ρ, xs, o, rr, p⟩
      · rw [if_neg hl] at p; exact p.elim
    | _ => exact p.elim
/-- target = e -/
def asgG (gd : D → Rho → Option Rho) (fa : Rho → R VD) : Rho → O := fun ρ => (fa ρ).thnO fun v ρ1 => match v with
  | .d x => (match gd x ρ1 with | some ρ2 => .nx ρ2 | none => .bad)
  | .sl _ => .bad
theorem xs_asg {tg : Expr} {gd : D → Rho → Option Rho} (he : XE X T W e fa) (hg : XG X T tg gd) (hs : swapsWithSole [tg] e pos.line X.env = pure false := by rfl) (hw : swappedStores [tg] e X.env = pure none := by rfl)
    (h1 : (assignEach [tg] X.env).map (·.2) = [assign tg X.env] := by rfl) : XS X T W (.Assign [tg] e pos) (asgG gd fa) := (ps_asg he hg hs hw h1).impQ fun De σ H q => by
  obtain ⟨β, G, S, ρ, o, p⟩ := q
  refine ⟨β, G, S, ρ, o, PostS.thn (Rl := RpV X.K T σ) p fun S1 H1 ρ1 v u e1 o1 h1 p1 => ?_⟩
  cases v with
  | sl i => exact p1.elim
  | d x =>
    refine ⟨β, G, S1, ρ1, x, o1, h1, ?_⟩
    dsimp only at p1
    cases q1 : gd x ρ1 with
    | none => rw [q1] at p1; exact p1.elim
    | some ρ2 => rw [q1] at p1; exact fun σ' o' => p1 S1 σ' H1 (Same.refl _) o'

/-! ### what is walked -/
def Wk (K : PySem.W.Frag) (T : Tb) (S : Hp) (ds : List D) (J : It) : Prop := ∀ S1 H1, Same S S1 → Same S1 H1 → ∀ i : Nat,
  (∀ d, ds[i]? = some d → J.go i H1 ∧ ∀ x H2, J.yld i H1 x H2 → ∃ S2, Ext S1 H1 S2 H2 ∧ Rp K T S2 d x) ∧ (i = ds.length → J.stop i H1)
def PostI (K : PySem.W.Frag) (T : Tb) (W : WX) (β : Option Addr) (G S : Hp) (σ : L2.St) (r : R (List D)) (Q : It → Hp → Prop) : Prop := match r with
  | .ok ds ρ' => ∀ S' H' J, Same S S' → Ok K T β G S' σ ρ' H' → Wk K T S' ds J → Q J H'
  | .err x ρ' => ∀ S' H' c d, Same S S' → Ok K T β G S' σ ρ' H' → XR K T S' x c d → W c d σ H'
  | .bad => False
def rI (K : PySem.W.Frag) (T : Tb) (W : WX) (f : Rho → R (List D)) : TI := fun σ H Q => ∃ β G S ρ, Ok K T β G S σ ρ H ∧ PostI K T W β G S σ (f ρ) Q
def XI (X : Cx) (T : Tb) (W : WX) (tg e : Expr) (f : Rho → R (List D)) : Prop := PI X tg e (rI X.K T W f)
def loopS (body : D → Rho → O) : List D → Rho → O
  | [], ρ => .nx ρ
  | d :: ds, ρ => match body d ρ with
    | .nx ρ1 => loopS body ds ρ1
    | .ct ρ1 => loopS body ds ρ1
    | .bk ρ1 => .nx ρ1
    | r => r
def turnS (gd : D → Rho → Option Rho) (g : Rho → O) : D → Rho → O := fun d ρ => match gd d ρ with
  | some ρ1 => g ρ1
  | none => .bad
def forS (f : Rho → R (List D)) (gd : D → Rho → Option Rho) (g : Rho → O) : Rho → O := fun ρ => (f ρ).thnO fun ds ρ1 => loopS (turnS gd g) ds ρ1
theorem xs_for {tg iter : Expr} {f : Rho → R (List D)} {gd : D → Rho → Option Rho} {body : List Stmt} (hp : PassesOwn (model X.prog X.w) X.A X.env X.xe) (hc : X.calm = true) (hi : XI X T W tg iter f) (hg : XG X T tg gd) (hb : XB X T W body g)
    (hs : ∀ x, foldedSetIterable iter X.env x = pure x := by intro _; rfl) : XS X T W (.For tg iter body [] pos) (forS f gd g) := (ps_for hp hc hi hg hb hs).impQ fun De σ H q => by
  obtain ⟨β, G, S, ρ, o, p⟩ := q
  refine ⟨β, G, S, ρ, o, ?_⟩
  unfold forS at p
  revert p
  cases f ρ with
  | bad => exact fun p => p
  | err x ρ1 => exact fun p S1 H1 c d e o q => p S1 σ H1 c d e o q
  | ok ds ρ1 =>
    intro p S1 H1 J e1 o1 wk
    refine ⟨fun i m σ' H' => m = ds.length - i ∧ i ≤ ds.length ∧ ∃ S2 ρ2, Same S1 S2 ∧ Ok X.K T β G S2 σ' ρ2 H' ∧ PostS X.K T W β G S2 (loopS (turnS gd g) (ds.drop i) ρ2) De,
      ⟨_, rfl, Nat.zero_le _, S1, ρ1, Same.refl _, o1, p.mono e1⟩, ?_⟩
    rintro i m σ2 H2 ⟨rfl, hi2, S2, ρ2, e2, o2, p2⟩
    by_cases hlt : i < ds.length
    · obtain ⟨hgo, hy⟩ := (wk S2 H2 e2 o2.sh i).1 ds[i] (List.getElem?_eq_getElem hlt)
      rw [List.drop_eq_getElem_cons hlt] at p2
      refine .inr ⟨hgo, fun σ' H' => ∃ S3 ρ3, Same S1 S3 ∧ Ok X.K T β G S3 σ' ρ3 H' ∧ PostS X.K T W β G S3 (loopS (turnS gd g) (ds.drop (i + 1)) ρ3) De, ?_, ?_⟩
      · rintro σ' H' ⟨S3, ρ3, e3, o3, p3⟩
        exact ⟨ds.length - (i + 1), by omega, rfl, hlt, S3, ρ3, e3, o3, p3⟩
      · intro x H3 hyx
        obtain ⟨S3, x3, r3⟩ := hy x H3 hyx
        have o3 := o2.ext x3
        refine ⟨β, G, S3, ρ2, ds[i], o3, r3, ?_⟩
        unfold loopS turnS at p2
        cases q1 : gd ds[i] ρ2 with
        | none => rw [q1] at p2; exact p2.elim
        | some ρ3 =>
          rw [q1] at p2
          dsimp only at p2 ⊢
          intro σ3 o4
          refine ⟨β, G, S3, ρ3, o4, ?_⟩
          have p3 := p2.mono x3.s
          revert p3
          cases g ρ3 with
          | nx ρ4 => exact fun p3 S4 σ4 H4 e4 o5 => ⟨S4, ρ4, (e2.trans x3.s).trans e4, o5, p3.mono e4⟩
          | ct ρ4 => exact fun p3 S4 σ4 H4 e4 o5 => ⟨S4, ρ4, (e2.trans x3.s).trans e4, o5, p3.mono e4⟩
          | bk ρ4 => exact fun p3 => p3
          | rt v ρ4 => exact fun p3 => p3
          | rf ds ρ4 => exact fun p3 => p3
          | err x ρ4 => exact fun p3 => p3
          | bad => exact fun p3 => p3
    · have e : i = ds.length := by omega
      subst e
      rw [List.drop_length] at p2
      exact .inl ⟨(wk S2 H2 e2 o2.sh _).2 rfl, p2 S2 σ2 H2 (Same.refl _) o2⟩
end
end Lq
namespace Lq
open PySem PySem.Spec PyProof.Rows L2
/-! ### walks -/
def chars (s : Str) : List D := s.cps.toList.map fun c => D.str ⟨#[c]⟩
def itemsOf : D → Option (List D)
  | .lst xs => some xs
  | .tup xs => some xs
  | .str s => some (chars s)
  | _ => none
section
variable {K : PySem.W.Frag} {T : Tb} {W : WX} {β : Option Addr} {G S S' H : Hp} {σ : L2.St} {ρ : Rho} {X : Cx} {tg e : Expr} {es : List Expr} {fa : Rho → R VD} {fs : Rho → R (List VD)} {pos : Pos}
theorem PostI.mono {r : R (List D)} {Q : It → Hp → Prop} (h : PostI K T W β G S σ r Q) (e : Same S S') : PostI K T W β G S' σ r Q := by
  cases r with
  | ok a ρ' => exact fun S2 H2 J e2 o => h S2 H2 J (e.trans e2) o
  | err x ρ' => exact fun S2 H2 c d e2 o => h S2 H2 c d (e.trans e2) o
  | bad => exact h
theorem PostI.thn {α γ : Type} {Rl : Hp → α → γ → Prop} {r : R α} {k : α → Rho → R (List D)} {Q : It → Hp → Prop} {Q' : γ → Hp → Prop} (h : PostI K T W β G S σ (r.bind k) Q)
    (f : ∀ S1 H1 ρ1 a u, Same S S1 → Ok K T β G S1 σ ρ1 H1 → Rl S1 a u → PostI K T W β G S1 σ (k a ρ1) Q → Q' u H1) : Post K T W β G S σ Rl r Q' := by
  cases r with
  | ok a ρ' => exact fun S1 H1 u e o q => f S1 H1 ρ' a u e o q (PostI.mono h e)
  | err x ρ' => exact h
  | bad => exact h.elim
/-- a list, a tuple, a text, whichever it is -/
theorem pi_any {l : Expr} {tl : TE} (hl : PE X l tl) : PI X tg l (fun σ H Q => tl σ H fun x H1 => (∃ a, x = .ref a ∧ (∃ xs, SqL X.K H1 a xs) ∧ Q (Itl X.K a) H1) ∨ (∃ a, x = .ref a ∧ (∃ xs, SqT X.K H1 a xs) ∧ Q (Itt X.K a) H1) ∨ (∃ z, x = .str z ∧ Q (Its z) H1)) := by
  refine ⟨fun pins s σ H Q I h => thn (hl.run pins s σ H _ I h) fun v s1 ⟨x, H1, I1, r1, q1⟩ => ?_⟩
  rcases q1 with ⟨a, rfl, ⟨xs, hq⟩, q⟩ | ⟨a, rfl, ⟨xs, hq⟩, q⟩ | ⟨z, rfl, q⟩
  · cases r1
    obtain ⟨its, _, p, _⟩ := I1.list hq
    exact wpAny_pyIter_list p.isList (pi_one (tk := s1.toks) I1 _ (turn_list a _) ⟨_, Heap.get?_push_size _ rfl, rfl, rfl⟩ q)
  · cases r1
    obtain ⟨its, _, p, _⟩ := I1.tuple hq
    exact wpAny_pyIter_tuple (show s1.heap.IsTuple a its.toArray from p) (pi_one (tk := s1.toks) I1 _ (turn_tuple a _) ⟨_, Heap.get?_push_size _ rfl, rfl, rfl⟩ q)
  · obtain ⟨t, rfl⟩ := r1
    cases ha : z.cps.all (· < 128)
    · exact wpAny_pyIter_wide ha (pi_one (tk := s1.toks) I1 _ (turn_str _ z t _ (.inr rfl)) ⟨_, Heap.get?_push_size _ rfl, rfl, rfl⟩ q)
    · exact wpAny_pyIter_ascii ha (pi_one (tk := s1.toks) I1 _ (turn_str _ z t _ (.inl rfl)) ⟨_, Heap.get?_push_size _ rfl, rfl, rfl⟩ q)
theorem rd_lst {a : Addr} {vs : List V} (h : H a = some (.lst vs)) {xs : List V} (q : SqL K H a xs) (ht : ∀ o its n, K.lookup a = some o → o.data = .seq its n → False) : xs = vs := by
  rcases q with (q | ⟨o, q⟩) | ⟨o, its, n, hk, _, _, hd, _⟩
  · rw [h] at q; cases q; rfl
  · rw [h] at q; cases q
  · exact (ht o its n hk hd).elim
theorem wk_str {z : Str} : Wk K T S (chars z) (Its z) := fun S1 H1 e1 e2 i => by
  refine ⟨fun d hd => ?_, fun hl => have hl := Nat.le_of_eq hl.symm; ?_⟩
  · unfold chars at hd
    rw [List.getElem?_map] at hd
    cases q : z.cps.toList[i]? with
    | none => rw [q] at hd; cases hd
    | some c =>
      rw [q] at hd
      have hd' : D.str ⟨#[c]⟩ = d := Option.some.inj hd
      subst hd'
      have hi : i < z.cps.size := by have := (List.getElem?_eq_some_iff.mp q).1; simpa using this
      refine ⟨hi, fun x H2 hy => ?_⟩
      obtain ⟨rfl, c', hc, rfl⟩ := hy
      refine ⟨S1, Ext.refl e2, ?_⟩
      have : c' = c := by
        rw [Array.getElem?_toList] at q
        rw [hc] at q; exact Option.some.inj q
      rw [this]; rfl
  · unfold chars at hl
    show z.cps.size ≤ i
    simpa using hl
/-- a slot's own list becomes plain data -/
theorem Ok.frzSlot (o : Ok K T β G S σ ρ H) {i : Nat} {xs : List D} (h : ρ[i]? = some (.m xs)) : ∃ a vs, σ[i]? = some (some (.ref a)) ∧ H a = some (.lst vs) ∧ S a = none ∧ Rps K T S xs vs ∧ Ok K T β G (upd S a (.lst vs)) σ (ρ.set i (.d (.lst xs))) H := by
  obtain ⟨a, vs, e1, e2, e3, e4, e5, r⟩ := o.cel i _ h
  have hl := o.lt h
  have es : σ.set i (some (.ref a)) = σ := by
    apply List.ext_getElem?
    intro j
    by_cases hj : j = i
    · subst hj; rw [List.getElem?_set_self hl, e1]
    · rw [List.getElem?_set_ne (Ne.symm hj)]
  have o1 := o.setN (i := i) (v := some (.ref a))
  rw [es] at o1
  have fr : Fre β G S σ (ρ.set i .no) a := ⟨e3, e4, e5, fun j ys q z => by
    have hj : j ≠ i := fun e => by subst e; cases get_set_eq q
    rw [List.getElem?_set_ne (Ne.symm hj)] at q
    exact hj (o.dis j i ys xs q h (z.trans e1.symm))⟩
  have o2 := o1.freeze fr e2
  have o3 := o2.setD (i := i) (x := .lst xs) (v := .ref a) ⟨a, vs, rfl, upd_same, Rps.mono (same_new e3) _ _ r⟩
  rw [es, List.set_set] at o3
  exact ⟨a, vs, e1, e2, e3, r, o3⟩
def seqI (fa : Rho → R VD) : Rho → R (List D) := fun ρ => (fa ρ).bind fun v ρ1 => match v with
  | .d x => (match itemsOf x with | some ds => .ok ds ρ1 | none => .bad)
  | .sl i => (match ρ1[i]? with | some (.m xs) => .ok xs (ρ1.set i (.d (.lst xs))) | _ => .bad)
theorem wk_list {a : Addr} {ds : List D} {vs : List V} (h : S a = some (.lst vs)) (r : Rps K T S ds vs) (hinj : ∀ H1 xs, H1 a = some (.lst vs) → SqL K H1 a xs → xs = vs) : Wk K T S ds (Itl K a) := fun S1 H1 e1 e2 i => by
  have h1 : H1 a = some (.lst vs) := e2 _ _ (e1 _ _ h)
  refine ⟨fun d hd => ?_, fun hl => have hl := Nat.le_of_eq hl.symm; ⟨vs, SqL.of h1, by rw [r.len]; exact hl⟩⟩
  obtain ⟨v, hv, rv⟩ := r.get hd
  refine ⟨⟨vs, v, SqL.of h1, hv⟩, fun x H2 hy => ?_⟩
  obtain ⟨rfl, hx⟩ := hy
  have := hx vs (SqL.of h1)
  rw [hv] at this; cases this
  exact ⟨S1, Ext.refl e2, Rp.mono e1 _ _ rv⟩
theorem wk_list' {a : Addr} {ds : List D} {vs : List V} (h : S a = some (.lst vs)) (r : Rps K T S ds vs) : Wk K T S ds (Itl K a) := fun S1 H1 e1 e2 i => by
  have h1 : H1 a = some (.lst vs) := e2 _ _ (e1 _ _ h)
  refine ⟨fun d hd => ?_, fun hl => have hl := Nat.le_of_eq hl.symm; ⟨vs, SqL.of h1, by rw [r.len]; exact hl⟩⟩
  obtain ⟨v, hv, rv⟩ := r.get hd
  refine ⟨⟨vs, v, SqL.of h1, hv⟩, fun x H2 hy => ?_⟩
  obtain ⟨rfl, hx⟩ := hy
  have := hx vs (SqL.of h1)
  rw [hv] at this; cases this
  exact ⟨S1, Ext.refl e2, Rp.mono e1 _ _ rv⟩
theorem wk_tup {a : Addr} {ds : List D} {vs : List V} (h : SqT K S a vs) (r : Rps K T S ds vs) : Wk K T S ds (Itt K a) := fun S1 H1 e1 e2 i => by
  have h1 : SqT K H1 a vs := same_tup e2 (same_tup e1 h)
  refine ⟨fun d hd => ?_, fun hl => have hl := Nat.le_of_eq hl.symm; ⟨vs, h1, by rw [r.len]; exact hl⟩⟩
  obtain ⟨v, hv, rv⟩ := r.get hd
  refine ⟨⟨vs, v, h1, hv⟩, fun x H2 hy => ?_⟩
  obtain ⟨rfl, hx⟩ := hy
  have := hx vs h1
  rw [hv] at this; cases this
  exact ⟨S1, Ext.refl e2, Rp.mono e1 _ _ rv⟩
theorem _root_.L2.PI.impQ {X : Cx} {tg e : Expr} {t t' : TI} (h : PI X tg e t) (i : ∀ σ H Q, t' σ H Q → t σ H Q) : PI X tg e t' := ⟨fun pins s σ H Q I w => h.run pins s σ H Q I (i σ H Q w)⟩
theorem xi_seq (he : XE X T W e fa) : XI X T W tg e (seqI fa) := (pi_any he).impQ fun σ H Q h => by
  obtain ⟨β, G, S, ρ, o, p⟩ := h
  refine ⟨β, G, S, ρ, o, PostI.thn (Rl := RpV X.K T σ) p fun S1 H1 ρ1 v u e1 o1 h1 p1 => ?_⟩
  cases v with
  | d x =>
    dsimp only at p1
    cases x with
    | lst ds =>
      obtain ⟨a, vs, e2, q, r⟩ := h1
      exact .inl ⟨a, e2, ⟨vs, SqL.of (o1.sh _ _ q)⟩, p1 S1 H1 _ (Same.refl _) o1 (wk_list' q r)⟩
    | tup ds =>
      obtain ⟨a, vs, e2, q, r⟩ := h1
      exact .inr (.inl ⟨a, e2, ⟨vs, same_tup o1.sh q⟩, p1 S1 H1 _ (Same.refl _) o1 (wk_tup q r)⟩)
    | str z => exact .inr (.inr ⟨z, h1, p1 S1 H1 _ (Same.refl _) o1 wk_str⟩)
    | _ => exact p1.elim
  | sl i =>
    dsimp only at p1
    split at p1
    · rename_i xs q
      obtain ⟨a, vs, e2, e3, e4, r, o2⟩ := o1.frzSlot q
      have : σ[i]? = some (some u) := h1
      rw [e2] at this; cases this
      exact .inl ⟨a, rfl, ⟨vs, SqL.of e3⟩, p1 _ H1 _ (same_new e4) o2 (wk_list' upd_same (Rps.mono (same_new e4) _ _ r))⟩
    · exact p1.elim
/-- range(n), range(m, n) -/
def rng (lo : Int) (n : Nat) : List D := (List.range n).map fun i => D.int (lo + (i : Nat))
theorem wk_rng {lo : Int} {n : Nat} : Wk K T S (rng lo n) (Itr lo n) := fun S1 H1 e1 e2 i => by
  unfold rng
  refine ⟨fun d hd => ?_, fun hl => have hl := Nat.le_of_eq hl.symm; ?_⟩
  · rw [List.getElem?_map] at hd
    cases q : (List.range n)[i]? with
    | none => rw [q] at hd; cases hd
    | some j =>
      rw [q] at hd
      obtain ⟨h1, h2⟩ := List.getElem?_eq_some_iff.mp q
      rw [List.length_range] at h1
      rw [List.getElem_range] at h2
      subst h2
      cases hd
      refine ⟨h1, fun x H2 hy => ?_⟩
      obtain ⟨rfl, rfl⟩ := hy
      exact ⟨S1, Ext.refl e2, rfl⟩
  · rw [List.length_map, List.length_range] at hl
    exact hl
def okR (i : Int) : Bool := Nat.ble i.natAbs 4611686018427387903
theorem okR_of {i : Int} (h : okR i = true) : -(2 ^ 62) ≤ i ∧ i < 2 ^ 62 := by
  unfold okR at h
  have := Nat.le_of_ble_eq_true h
  omega
def rngI1 (fs : Rho → R (List VD)) : Rho → R (List D) := fun ρ => (fs ρ).bind fun vs ρ1 => match vs with
  | [.d (.int n)] => if okR n then .ok (rng 0 n.toNat) ρ1 else .bad
  | _ => .bad
def rngI2 (fs : Rho → R (List VD)) : Rho → R (List D) := fun ρ => (fs ρ).bind fun vs ρ1 => match vs with
  | [.d (.int m), .d (.int n)] => if okR m && okR n then .ok (rng m (n - m).toNat) ρ1 else .bad
  | _ => .bad
theorem RpVs.one {v : VD} {us : List V} (h : RpVs K T σ S [v] us) : ∃ u, us = [u] ∧ RpV K T σ S v u := by
  obtain ⟨u, r, e1, h1, h2⟩ := h
  rw [show r = [] from h2] at e1
  exact ⟨u, e1, h1⟩
theorem RpVs.two {v w : VD} {us : List V} (h : RpVs K T σ S [v, w] us) : ∃ u z, us = [u, z] ∧ RpV K T σ S v u ∧ RpV K T σ S w z := by
  obtain ⟨u, r, e1, h1, h2⟩ := h
  obtain ⟨z, e2, h3⟩ := h2.one
  rw [e2] at e1
  exact ⟨u, z, e1, h1, h3⟩
theorem xi_range1 {p : Pos} (hm : X.mg "range" = none) (ha : XA X T W [e] fs) (hg : L2.Gl X "range" := by rfl) (hs : starEach [e] X.env = [(false, eval e X.env)] := by rfl) : XI X T W tg (.Call (.Name "range" p) [e] [] pos) (rngI1 fs) := (pi_range1 hg hm ha hs).impQ fun σ H Q h => by
  obtain ⟨β, G, S, ρ, o, p⟩ := h
  refine ⟨β, G, S, ρ, o, PostI.thn (Rl := RpVs X.K T σ) p fun S1 H1 ρ1 v u e1 o1 h1 p1 => ?_⟩
  split at p1
  · rename_i n
    split at p1
    · rename_i hn
      obtain ⟨z, rfl, hz⟩ := h1.one
      have hb := okR_of hn
      exact ⟨n, by rw [show z = .int n from hz], hb.1, hb.2, p1 S1 H1 _ (Same.refl _) o1 wk_rng⟩
    · exact p1.elim
  · exact p1.elim
theorem xi_range2 {p : Pos} {e2 : Expr} (hm : X.mg "range" = none) (ha : XA X T W [e, e2] fs) (hg : L2.Gl X "range" := by rfl) (hs : starEach [e, e2] X.env = [(false, eval e X.env), (false, eval e2 X.env)] := by rfl) (hs2 : starEach [e2] X.env = [(false, eval e2 X.env)] := by rfl) : XI X T W tg (.Call (.Name "range" p) [e, e2] [] pos) (rngI2 fs) := (pi_range2 hg hm ha hs hs2).impQ fun σ H Q h => by
  obtain ⟨β, G, S, ρ, o, p⟩ := h
  refine ⟨β, G, S, ρ, o, PostI.thn (Rl := RpVs X.K T σ) p fun S1 H1 ρ1 v u e1 o1 h1 p1 => ?_⟩
  split at p1
  · rename_i m n
    split at p1
    · rename_i hn
      rw [Bool.and_eq_true] at hn
      obtain ⟨z, y, rfl, hz, hy⟩ := h1.two
      have hb := okR_of hn.1
      have hb2 := okR_of hn.2
      exact ⟨m, n, by rw [show z = .int m from hz, show y = .int n from hy], ⟨hb.1, hb.2, hb2.1, hb2.2⟩, p1 S1 H1 _ (Same.refl _) o1 wk_rng⟩
    · exact p1.elim
  · exact p1.elim
/-- enumerate of a list -/
def enumD (ds : List D) : List D := ds.zipIdx.map fun p => D.tup [.int (p.2 : Nat), p.1]
theorem wk_enum {a : Addr} {ds : List D} {vs : List V} (h : S a = some (.lst vs)) (r : Rps K T S ds vs) : Wk K T S (enumD ds) (Ite K a) := fun S1 H1 e1 e2 i => by
  have h1 : H1 a = some (.lst vs) := e2 _ _ (e1 _ _ h)
  unfold enumD
  refine ⟨fun d hd => ?_, fun hl => have hl := Nat.le_of_eq hl.symm; ⟨vs, SqL.of h1, by rw [r.len]; simpa using hl⟩⟩
  rw [List.getElem?_map] at hd
  cases q : ds.zipIdx[i]? with
  | none => rw [q] at hd; cases hd
  | some p =>
    rw [q] at hd
    rw [List.getElem?_zipIdx] at q
    cases q2 : ds[i]? with
    | none => rw [q2] at q; cases q
    | some d0 =>
      rw [q2] at q
      have hp : (d0, 0 + i) = p := Option.some.inj q
      subst hp
      have hd' : D.tup [.int (((0 + i : Nat)) : Int), d0] = d := Option.some.inj hd
      subst hd'
      obtain ⟨v, hv, rv⟩ := r.get q2
      refine ⟨⟨vs, v, SqL.of h1, hv⟩, fun x H2 hy => ?_⟩
      obtain ⟨t, x0, rfl, ht, rfl, hx⟩ := hy
      have := hx vs (SqL.of h1)
      rw [hv] at this; cases this
      have sn := same_new (o := .tup [.int ((i : Nat) : Int), v]) (e2.free ht)
      refine ⟨upd S1 t (.tup [.int ((i : Nat) : Int), v]), Ext.new e2 ht, t, [.int ((i : Nat) : Int), v], rfl, SqT.of upd_same, _, _, rfl, ?_, _, _, rfl, Rp.mono sn _ _ (Rp.mono e1 _ _ rv), rfl⟩
      show V.int _ = V.int _
      rw [Nat.zero_add]
def enumI (fs : Rho → R (List VD)) : Rho → R (List D) := fun ρ => (fs ρ).bind fun vs ρ1 => match vs with
  | [.d (.lst ds)] => .ok (enumD ds) ρ1
  | [.sl i] => (match ρ1[i]? with | some (.m xs) => .ok (enumD xs) (ρ1.set i (.d (.lst xs))) | _ => .bad)
  | _ => .bad
theorem xi_enum {p tpos : Pos} {elts : List Expr} {kk : Nat} (hm : X.mg "enumerate" = none) (ha : XA X T W [e] fs) (hg : L2.Gl X "enumerate" := by rfl) (hs : starEach [e] X.env = [(false, eval e X.env)] := by rfl) : XI X T W (.Tuple elts kk tpos) (.Call (.Name "enumerate" p) [e] [] pos) (enumI fs) := (pi_enum hg hm ha hs).impQ fun σ H Q h => by
  obtain ⟨β, G, S, ρ, o, p⟩ := h
  refine ⟨β, G, S, ρ, o, PostI.thn (Rl := RpVs X.K T σ) p fun S1 H1 ρ1 v u e1 o1 h1 p1 => ?_⟩
  split at p1
  · rename_i ds
    obtain ⟨z, rfl, a, vs, rfl, q, r⟩ := h1.one
    exact ⟨a, vs, rfl, SqL.of (o1.sh _ _ q), p1 S1 H1 _ (Same.refl _) o1 (wk_enum q r)⟩
  · rename_i i
    split at p1
    · rename_i xs q
      obtain ⟨z, rfl, hz⟩ := h1.one
      obtain ⟨a, vs, e2, e3, e4, r, o2⟩ := o1.frzSlot q
      have : σ[i]? = some (some z) := hz
      rw [e2] at this; cases this
      exact ⟨a, vs, rfl, SqL.of e3, p1 _ H1 _ (same_new e4) o2 (wk_enum upd_same (Rps.mono (same_new e4) _ _ r))⟩
    · exact p1.elim
  · exact p1.elim
/-- zip of two lists, of two tuples -/
def zipD (xs ys : List D) : List D := (xs.zip ys).map fun p => D.tup [p.1, p.2]
theorem zip_get {xs ys : List D} {i : Nat} {d : D} (h : (zipD xs ys)[i]? = some d) : ∃ x y, xs[i]? = some x ∧ ys[i]? = some y ∧ d = .tup [x, y] := by
  unfold zipD at h
  rw [List.getElem?_map] at h
  cases q : (xs.zip ys)[i]? with
  | none => rw [q] at h; cases h
  | some p =>
    rw [q] at h
    obtain ⟨h1, h2⟩ := List.getElem?_zip_eq_some.mp q
    exact ⟨p.1, p.2, h1, h2, (Option.some.inj h).symm⟩
theorem pair_new {S1 H1 : Hp} {t : Addr} {x y : D} {v w : V} (e2 : Same S1 H1) (ht : H1 t = none) (rx : Rp K T S1 x v) (ry : Rp K T S1 y w) : ∃ S2, Ext S1 H1 S2 (upd H1 t (.tup [v, w])) ∧ Rp K T S2 (.tup [x, y]) (.ref t) := by
  have sn := same_new (o := .tup [v, w]) (e2.free ht)
  exact ⟨upd S1 t (.tup [v, w]), Ext.new e2 ht, t, [v, w], rfl, SqT.of upd_same, _, _, rfl, Rp.mono sn _ _ rx, _, _, rfl, Rp.mono sn _ _ ry, rfl⟩
theorem wk_zipL {a b : Addr} {xs ys : List D} {vs ws : List V} (h : S a = some (.lst vs)) (r : Rps K T S xs vs) (h' : S b = some (.lst ws)) (r' : Rps K T S ys ws) : Wk K T S (zipD xs ys) (Itz K a b) := fun S1 H1 e1 e2 i => by
  have h1 : H1 a = some (.lst vs) := e2 _ _ (e1 _ _ h)
  have h2 : H1 b = some (.lst ws) := e2 _ _ (e1 _ _ h')
  refine ⟨fun d hd => ?_, fun hl => have hl := Nat.le_of_eq hl.symm; ⟨vs, ws, SqL.of h1, SqL.of h2, ?_⟩⟩
  · obtain ⟨x, y, q1, q2, rfl⟩ := zip_get hd
    obtain ⟨v, hv, rv⟩ := r.get q1
    obtain ⟨w, hw, rw'⟩ := r'.get q2
    refine ⟨⟨vs, ws, v, w, SqL.of h1, SqL.of h2, hv, hw⟩, fun z H2 hy => ?_⟩
    obtain ⟨t, x1, x2, rfl, ht, rfl, f1, f2⟩ := hy
    have g1 := f1 vs (SqL.of h1)
    have g2 := f2 ws (SqL.of h2)
    rw [hv] at g1; cases g1
    rw [hw] at g2; cases g2
    exact pair_new e2 ht (Rp.mono e1 _ _ rv) (Rp.mono e1 _ _ rw')
  · unfold zipD at hl
    rw [List.length_map, List.length_zip] at hl
    rw [r.len, r'.len]
    omega
theorem wk_zipT {a b : Addr} {xs ys : List D} {vs ws : List V} (h : SqT K S a vs) (r : Rps K T S xs vs) (h' : SqT K S b ws) (r' : Rps K T S ys ws) : Wk K T S (zipD xs ys) (RZ.ItzT K a b) := fun S1 H1 e1 e2 i => by
  have h1 : SqT K H1 a vs := same_tup e2 (same_tup e1 h)
  have h2 : SqT K H1 b ws := same_tup e2 (same_tup e1 h')
  refine ⟨fun d hd => ?_, fun hl => have hl := Nat.le_of_eq hl.symm; ⟨vs, ws, h1, h2, ?_⟩⟩
  · obtain ⟨x, y, q1, q2, rfl⟩ := zip_get hd
    obtain ⟨v, hv, rv⟩ := r.get q1
    obtain ⟨w, hw, rw'⟩ := r'.get q2
    refine ⟨⟨vs, ws, v, w, h1, h2, hv, hw⟩, fun z H2 hy => ?_⟩
    obtain ⟨t, x1, x2, rfl, ht, rfl, f1, f2⟩ := hy
    have g1 := f1 vs h1
    have g2 := f2 ws h2
    rw [hv] at g1; cases g1
    rw [hw] at g2; cases g2
    exact pair_new e2 ht (Rp.mono e1 _ _ rv) (Rp.mono e1 _ _ rw')
  · unfold zipD at hl
    rw [List.length_map, List.length_zip] at hl
    rw [r.len, r'.len]
    omega
def zipI (fs : Rho → R (List VD)) : Rho → R (List D) := fun ρ => (fs ρ).bind fun vs ρ1 => match vs with
  | [.d (.lst xs), .d (.lst ys)] => .ok (zipD xs ys) ρ1
  | [.d (.tup xs), .d (.tup ys)] => .ok (zipD xs ys) ρ1
  | _ => .bad
theorem xi_zip {p tpos : Pos} {e2 : Expr} {elts : List Expr} {kk : Nat} (hm : X.mg "zip" = none) (ha : XA X T W [e, e2] fs) (hg : L2.Gl X "zip" := by rfl) (hs : starEach [e, e2] X.env = (false, eval e X.env) :: starEach [e2] X.env := by rfl) (hpl : (backTo pos (starEach [e2] X.env)).any (·.1) = false := by rfl) : XI X T W (.Tuple elts kk tpos) (.Call (.Name "zip" p) [e, e2] [] pos) (zipI fs) := (RZ.pi_zipA hg hm ha hs hpl).impQ fun σ H Q h => by
  obtain ⟨β, G, S, ρ, o, p⟩ := h
  refine ⟨β, G, S, ρ, o, PostI.thn (Rl := RpVs X.K T σ) p fun S1 H1 ρ1 v u e1 o1 h1 p1 => ?_⟩
  split at p1
  · obtain ⟨z, y, rfl, ⟨a, vs, rfl, q, r⟩, b, ws, rfl, q', r'⟩ := h1.two
    exact ⟨a, b, vs, ws, rfl, .inl ⟨SqL.of (o1.sh _ _ q), SqL.of (o1.sh _ _ q'), p1 S1 H1 _ (Same.refl _) o1 (wk_zipL q r q' r')⟩⟩
  · obtain ⟨z, y, rfl, ⟨a, vs, rfl, q, r⟩, b, ws, rfl, q', r'⟩ := h1.two
    exact ⟨a, b, vs, ws, rfl, .inr ⟨same_tup o1.sh q, same_tup o1.sh q', p1 S1 H1 _ (Same.refl _) o1 (wk_zipT q r q' r')⟩⟩
  · exact p1.elim
end
end Lq
namespace Lq
open PySem PySem.Spec PyProof.Rows L2
/-! ### comprehensions -/
def wipeR (ρ : Rho) : List Nat → Rho
  | [] => ρ
  | v :: vs => (wipeR ρ vs).set v .no
def backR (ρ0 ρ : Rho) : List Nat → Rho
  | [] => ρ
  | v :: vs => (backR ρ0 ρ vs).set v (ρ0.getD v .no)
def plainC : Cell → Bool
  | .no => true
  | .d _ => true
  | _ => false
section
variable {K : PySem.W.Frag} {T : Tb} {W : WX} {β : Option Addr} {G S S' H : Hp} {σ : L2.St} {ρ : Rho}
theorem wipeR_len (ρ : Rho) : ∀ vs : List Nat, (wipeR ρ vs).length = ρ.length
  | [] => rfl
  | v :: vs => by unfold wipeR; rw [List.length_set, wipeR_len ρ vs]
theorem Ok.wipe (o : Ok K T β G S σ ρ H) : ∀ vs : List Nat, Ok K T β G S (L2.wipe σ vs) (wipeR ρ vs) H
  | [] => o
  | v :: vs => (Ok.wipe o vs).setN
theorem wipe_in {σ : L2.St} : ∀ {vs : List Nat} {v : Nat}, v ∈ vs → v < σ.length → (L2.wipe σ vs)[v]? = some none
  | [], _, h, _ => by cases h
  | w :: vs, v, h, hl => by
    unfold L2.wipe
    by_cases e : w = v
    · subst e; exact List.getElem?_set_self (by rw [wipe_length]; exact hl)
    · rw [List.getElem?_set_ne e]
      exact wipe_in ((List.mem_cons.mp h).resolve_left (fun z => e z.symm)) hl
theorem wipe_out' {σ : L2.St} : ∀ {vs : List Nat} {v : Nat}, v ∉ vs → (L2.wipe σ vs)[v]? = σ[v]?
  | [], _, _ => rfl
  | w :: vs, v, h => by
    unfold L2.wipe
    simp only [List.mem_cons, not_or] at h
    rw [List.getElem?_set_ne (Ne.symm h.1)]
    exact wipe_out' h.2
theorem backR_len (ρ0 ρ : Rho) : ∀ vs : List Nat, (backR ρ0 ρ vs).length = ρ.length
  | [] => rfl
  | v :: vs => by unfold backR; rw [List.length_set, backR_len ρ0 ρ vs]
theorem backR_out {ρ0 ρ : Rho} : ∀ {vs : List Nat} {v : Nat}, v ∉ vs → (backR ρ0 ρ vs)[v]? = ρ[v]?
  | [], _, _ => rfl
  | w :: vs, v, h => by
    unfold backR
    simp only [List.mem_cons, not_or] at h
    rw [List.getElem?_set_ne (Ne.symm h.1)]
    exact backR_out h.2
theorem backR_in {ρ0 ρ : Rho} : ∀ {vs : List Nat} {v : Nat}, v ∈ vs → v < ρ.length → (backR ρ0 ρ vs)[v]? = some (ρ0.getD v .no)
  | [], _, h, _ => by cases h
  | w :: vs, v, h, hl => by
    unfold backR
    by_cases e : w = v
    · subst e; exact List.getElem?_set_self (by rw [backR_len]; exact hl)
    · rw [List.getElem?_set_ne e]
      exact backR_in ((List.mem_cons.mp h).resolve_left (fun z => e z.symm)) hl
/-- behind a comprehension: its own names are as they were -/
theorem Ok.back {ρ0 : Rho} {S0 H0 : Hp} {vs : List Nat} (o0 : Ok K T β G S0 σ ρ0 H0) (o : Ok K T β G S (L2.wipe σ vs) ρ H) (e : Same S0 S) (hp : ∀ v ∈ vs, plainC (ρ0.getD v .no) = true) : Ok K T β G S σ (backR ρ0 ρ vs) H where
  sh := o.sh
  gh := o.gh
  gs := o.gs
  gb := o.gb
  bx := o.bx
  len := by rw [backR_len, ← o.len, wipe_length]
  cel := fun i c q => by
    by_cases hi : i ∈ vs
    · have hl : i < ρ.length := by have := (List.getElem?_eq_some_iff.mp q).1; rwa [backR_len] at this
      rw [backR_in hi hl] at q
      have q' : ρ0.getD i .no = c := Option.some.inj q
      have hpi := hp i hi
      rw [q'] at hpi
      cases c with
      | no => trivial
      | d x =>
        have q2 : ρ0[i]? = some (.d x) := by
          rw [List.getD_eq_getElem?_getD] at q'
          cases z : ρ0[i]? with
          | none => rw [z] at q'; cases q'
          | some y => rw [z] at q'; simp at q'; rw [q']
        obtain ⟨u, e1, r⟩ := o0.cel i _ q2
        exact ⟨u, e1, Rp.mono e _ _ r⟩
      | m xs => cases hpi
      | b ns => cases hpi
    · rw [backR_out hi] at q
      have := o.cel i c q
      rw [wipe_out' hi] at this
      exact this
  dis := fun i j xs ys q1 q2 e1 => by
    have k : ∀ i xs, (backR ρ0 ρ vs)[i]? = some (.m xs) → i ∉ vs := fun i xs q hi => by
      have hl : i < ρ.length := by have := (List.getElem?_eq_some_iff.mp q).1; rwa [backR_len] at this
      rw [backR_in hi hl] at q
      have hpi := hp i hi
      rw [Option.some.inj q] at hpi; cases hpi
    have hi := k i xs q1
    have hj := k j ys q2
    rw [backR_out hi] at q1
    rw [backR_out hj] at q2
    exact o.dis i j xs ys q1 q2 (by rw [wipe_out' hi, wipe_out' hj]; exact e1)
/-- a new thing is guarded -/
theorem Ok.guard (o : Ok K T β G S σ ρ H) {p : Addr} {u : HO} (h : H p = none) : Ok K T β (upd G p u) S σ ρ (upd H p u) where
  sh := o.sh.trans (same_new h)
  gh := same_upd2 o.gh
  gs := fun b v q => by
    by_cases hb : b = p
    · subst hb; exact o.sh.free h
    · rw [upd_ne hb] at q; exact o.gs b v q
  gb := fun b q => by
    obtain ⟨ns, hb⟩ := o.bx b q
    rw [upd_ne (ne_of_none hb h)]; exact o.gb b q
  bx := fun b q => by
    obtain ⟨ns, hb⟩ := o.bx b q
    exact ⟨ns, same_new h _ _ hb⟩
  len := o.len
  cel := fun i c q => by
    have h1 := o.cel i c q
    cases c with
    | no => trivial
    | d x => exact h1
    | m xs =>
      obtain ⟨a, vs, e1, e2, e3, e4, e5, r⟩ := h1
      exact ⟨a, vs, e1, same_new h _ _ e2, e3, by rw [upd_ne (ne_of_none e2 h)]; exact e4, e5, r⟩
    | b ns => obtain ⟨a, e1, e2, e3⟩ := h1; exact ⟨a, e1, e2, same_new h _ _ e3⟩
  dis := o.dis
/-- what is guarded is changed -/
theorem Ok.reguard {p : Addr} {u u' : HO} (o : Ok K T β (upd G p u) S σ ρ H) (hg : G p = none) : Ok K T β (upd G p u') S σ ρ (upd H p u') where
  sh := fun b v q => by
    have hb : b ≠ p := fun z => by subst z; rw [o.gs b u upd_same] at q; cases q
    rw [upd_ne hb]; exact o.sh b v q
  gh := fun b v q => by
    by_cases hb : b = p
    · subst hb; rw [upd_same] at q ⊢; exact q
    · rw [upd_ne hb] at q ⊢; exact o.gh b v (by rw [upd_ne hb]; exact q)
  gs := fun b v q => by
    by_cases hb : b = p
    · subst hb; exact o.gs b u upd_same
    · rw [upd_ne hb] at q; exact o.gs b v (by rw [upd_ne hb]; exact q)
  gb := fun b q => by
    have hb : b ≠ p := fun z => by subst z; have := (o.gb b q).1; rw [upd_same] at this; cases this
    rw [upd_ne hb]; have := o.gb b q; rw [upd_ne hb] at this; exact this
  bx := fun b q => by
    have hb : b ≠ p := fun z => by subst z; have := (o.gb b q).1; rw [upd_same] at this; cases this
    rw [upd_ne hb]; exact o.bx b q
  len := o.len
  cel := fun i c q => by
    have h1 := o.cel i c q
    cases c with
    | no => trivial
    | d x => exact h1
    | m xs =>
      obtain ⟨a, vs, e1, e2, e3, e4, e5, r⟩ := h1
      have hb : a ≠ p := fun z => by subst z; rw [upd_same] at e4; cases e4
      exact ⟨a, vs, e1, by rw [upd_ne hb]; exact e2, e3, by rw [upd_ne hb] at e4 ⊢; exact e4, e5, r⟩
    | b ns =>
      obtain ⟨a, e1, e2, e3⟩ := h1
      have hb : a ≠ p := fun z => by subst z; have := (o.gb a e2).1; rw [upd_same] at this; cases this
      exact ⟨a, e1, e2, by rw [upd_ne hb]; exact e3⟩
  dis := o.dis
theorem Ok.unguard {p : Addr} {u : HO} (o : Ok K T β (upd G p u) S σ ρ H) (hg : G p = none) : Ok K T β G S σ ρ H ∧ Fre β G S σ ρ p ∧ H p = some u := by
  refine ⟨⟨o.sh, (same_new hg).trans o.gh, fun b v q => o.gs b v (same_new hg b v q), fun b q => ?_, o.bx, o.len, fun i c q => ?_, o.dis⟩, ⟨o.gs p u upd_same, hg, fun e => ?_, fun i xs q z => ?_⟩, o.gh p u upd_same⟩
  · refine ⟨?_, (o.gb b q).2⟩
    have hb : b ≠ p := fun z => by subst z; have := (o.gb b q).1; rw [upd_same] at this; cases this
    have := (o.gb b q).1; rw [upd_ne hb] at this; exact this
  · have h1 := o.cel i c q
    cases c with
    | no => trivial
    | d x => exact h1
    | m xs =>
      obtain ⟨a, vs, e1, e2, e3, e4, e5, r⟩ := h1
      have hb : a ≠ p := fun z => by subst z; rw [upd_same] at e4; cases e4
      exact ⟨a, vs, e1, e2, e3, by rw [upd_ne hb] at e4; exact e4, e5, r⟩
    | b ns => exact h1
  · have := (o.gb p e).1; rw [upd_same] at this; cases this
  · obtain ⟨a, vs, e1, e2, e3, e4, e5, r⟩ := o.cel i _ q
    rw [e1] at z; cases z; rw [upd_same] at e4; cases e4
end
/-- one turn: the target, the test, the element -/
def compTurn (gd : D → Rho → Option Rho) (ft : Rho → R Bool) (fe : Rho → R VD) (acc : List D) (d : D) (ρ : Rho) : R (List D) := match gd d ρ with
  | some ρ1 => (ft ρ1).bind fun k ρ2 => if k then ((fe ρ2).bind fun v ρ3 => match v with | .d y => if fits (acc.length + 1) then .ok (acc ++ [y]) ρ3 else .bad | .sl _ => .bad) else .ok acc ρ2
  | none => .bad
def compLoop (vs : List Nat) (gd : D → Rho → Option Rho) (ft : Rho → R Bool) (fe : Rho → R VD) : List D → List D → Rho → R (List D)
  | acc, [], ρ => .ok acc ρ
  | acc, d :: ds, ρ => match compTurn gd ft fe acc d ρ with
    | .ok acc1 ρ1 => compLoop vs gd ft fe acc1 ds (wipeR ρ1 vs)
    | _ => .bad
def compF (vs : List Nat) (fi : Rho → R (List D)) (gd : D → Rho → Option Rho) (ft : Rho → R Bool) (fe : Rho → R VD) : Rho → R (List D) := fun ρ => (fi ρ).bind fun ds ρ1 =>
  if vs.all (fun v => plainC (ρ1.getD v .no)) then (match compLoop vs gd ft fe [] ds (wipeR ρ1 vs) with
    | .ok acc ρ2 => .ok acc (backR ρ1 ρ2 vs)
    | _ => .bad) else .bad
/-- which slots a target sets: only those of vs -/
def Own (vs : List Nat) (gd : D → Rho → Option Rho) : Prop := True
def W0 : WX := fun _ _ _ _ => False
/-- a target that sets nothing but the slots vs, told of the slots themselves -/
def rGo (K : PySem.W.Frag) (T : Tb) (vs : List Nat) (gd : D → Rho → Option Rho) : TG := fun v σ H Q => ∃ β G S ρ x, Ok K T β G S σ ρ H ∧ Rp K T S x v ∧ match gd x ρ with
  | some ρ' => ∀ σ', Ok K T β G S σ' ρ' H → L2.wipe σ' vs = L2.wipe σ vs → Q σ' H
  | none => False
def XGo (X : Cx) (T : Tb) (vs : List Nat) (tg : Expr) (gd : D → Rho → Option Rho) : Prop := PG X tg (rGo X.K T vs gd)
theorem wipe_set {σ : L2.St} {i : Nat} {v : Option V} : ∀ {vs : List Nat}, i ∈ vs → L2.wipe (σ.set i v) vs = L2.wipe σ vs := fun {vs} hi => by
  apply List.ext_getElem?
  intro j
  by_cases hj : j ∈ vs
  · by_cases hl : j < σ.length
    · rw [wipe_in hj hl, wipe_in hj (by rw [List.length_set]; exact hl)]
    · rw [List.getElem?_eq_none (by rw [wipe_length, List.length_set]; omega), List.getElem?_eq_none (by rw [wipe_length]; omega)]
  · rw [wipe_out' hj, wipe_out' hj, List.getElem?_set_ne (fun z => hj (by rw [← z]; exact hi))]
section
variable {X : Cx} {T : Tb} {W : WX} {e elt tg iter : Expr} {es ifs : List Expr} {fi : Rho → R (List D)} {gd : D → Rho → Option Rho} {ft : Rho → R Bool} {fe : Rho → R VD} {pos : Pos} {vs : List Nat}
theorem xgo_name (i : Nat) {x : Str} (hN : X.N.Nodup) (hv : i ∈ vs := by decide) (hi : X.N[i]? = some x := by rfl) (hx : Loc X.env.scope x := by first | exact Or.inl rfl | exact Or.inr rfl) (hf : X.fn x = true ∨ X.env.scope.names.lookup x = some .local := by first | exact .inl rfl | exact .inr rfl) : XGo X T vs (.Name x pos) (nameG i) :=
  (pg_name hN hi hx hf).impQ fun v σ H Q q => by
    obtain ⟨β, G, S, ρ, x, o, r, p⟩ := q
    exact p _ (o.setD r) (wipe_set hv)
def rGos (K : PySem.W.Frag) (T : Tb) (vs : List Nat) (gd : List D → Rho → Option Rho) : TGs := fun us σ H Q => ∃ β G S ρ xs, Ok K T β G S σ ρ H ∧ Rps K T S xs us ∧ match gd xs ρ with
  | some ρ' => ∀ σ', Ok K T β G S σ' ρ' H → L2.wipe σ' vs = L2.wipe σ vs → Q σ' H
  | none => False
def XGos (X : Cx) (T : Tb) (vs : List Nat) (tg : List Expr) (gd : List D → Rho → Option Rho) : Prop := PGs X tg (rGos X.K T vs gd)
theorem xgos_nil : XGos X T vs [] nilG := pgs_nil.impQ fun us σ H Q q => by
  obtain ⟨β, G, S, ρ, xs, o, r, p⟩ := q
  unfold nilG at p
  split at p
  · rename_i ρ' e
    split at e
    · cases e; exact ⟨r, p σ o rfl⟩
    · cases e
  · exact p.elim
theorem xgos_cons {gds : List D → Rho → Option Rho} (h1 : XGo X T vs e gd) (h2 : XGos X T vs es gds) (hs : (assignEach (e :: es) X.env).map (·.2) = assign e X.env :: (assignEach es X.env).map (·.2) := by rfl) : XGos X T vs (e :: es) (consG gd gds) :=
  (pgs_cons h1 h2 hs).impQ fun us σ H Q q => by
    obtain ⟨β, G, S, ρ, xs, o, r, p⟩ := q
    unfold consG at p
    cases xs with
    | nil => exact p.elim
    | cons x xr =>
      obtain ⟨v, vr, e1, rx, rr⟩ := r
      refine ⟨v, vr, e1, β, G, S, ρ, x, o, rx, ?_⟩
      dsimp only at p
      cases q1 : gd x ρ with
      | none => rw [q1] at p; exact p.elim
      | some ρ1 =>
        rw [q1] at p
        dsimp only at p ⊢
        refine fun σ1 o1 ew => ⟨β, G, S, ρ1, xr, o1, rr, ?_⟩
        cases q2 : gds xr ρ1 with
        | none => rw [q2] at p; exact p.elim
        | some ρ2 => rw [q2] at p; exact fun σ2 o2 ew2 => p σ2 o2 (ew2.trans ew)
theorem xgo_tup {k n : Nat} {gds : List D → Rho → Option Rho} (hc : X.calm = true) (h : XGos X T vs es gds) (hn : (assignEach es X.env).length = n := by rfl) (hst : (assignEach es X.env).findIdx? (·.1) = none := by rfl) : XGo X T vs (.Tuple es k pos) (tupG n gds) :=
  ((pg_tup hc h hn hst).orQ (pg_unl hc h hn hst)).impQ fun v σ H Q q => by
    obtain ⟨β, G, S, ρ, x, o, r, p⟩ := q
    unfold tupG at p
    cases x with
    | tup xs =>
      obtain ⟨a, us, e1, q, rr⟩ := r
      dsimp only at p
      by_cases hl : xs.length = n
      · rw [if_pos hl] at p
        exact .inl ⟨a, us, e1, same_tup o.sh q, rr.len.trans hl, β, G, S, ρ, xs, o, rr, p⟩
      · rw [if_neg hl] at p; exact p.elim
    | lst xs =>
      obtain ⟨a, us, e1, q, rr⟩ := r
      dsimp only at p
      by_cases hl : xs.length = n
      · rw [if_pos hl] at p
        exact .inr ⟨a, us, e1, SqL.of (o.sh _ _ q), rr.len.trans hl, β, G, S, ρ, xs, o, rr, p⟩
      · rw [if_neg hl] at p; exact p.elim
    | _ => exact p.elim
def XTs (X : Cx) (T : Tb) (W : WX) (ifs : List Expr) (f : Rho → R Bool) : Prop := PTs X ifs (rT X.K T W f)
def yesT : Rho → R Bool := fun ρ => .ok true ρ
theorem xts_nil : XTs X T W [] yesT := ⟨fun pins s σ H Q I h => pts_nil.run pins s σ H Q I (by
  obtain ⟨β, G, S, ρ, o, p⟩ := h
  exact p S H true (Same.refl _) o rfl)⟩
theorem xts_one (h : XT X T W e ft) : XTs X T W [e] ft := pts_one h
theorem tLc_of {K : PySem.W.Frag} {σ : L2.St} {H : Hp} {Q : VK} (h : rF K T W (compF vs fi gd ft fe) σ H Q) : tLc (rI K T W fi) (rGo K T vs gd) (rT K T W0 ft) (rE K T W0 fe) vs σ H Q := by
  obtain ⟨β, G, S, ρ, o, p⟩ := h
  refine ⟨β, G, S, ρ, o, ?_⟩
  unfold compF at p
  revert p
  cases fi ρ with
  | bad => exact fun p => p
  | err x ρ1 => exact fun p => p
  | ok ds ρ1 =>
    intro p S1 H1 J e1 o1 wk p0 hp0
    dsimp only [R.bind] at p
    split at p
    case isFalse => exact p.elim
    case isTrue hpl =>
    have hpl' : ∀ v ∈ vs, plainC (ρ1.getD v .no) = true := fun v hv => List.all_eq_true.mp hpl v hv
    have hG0 : G p0 = none := o1.gh.free hp0
    refine ⟨fun i m H' => m = ds.length - i ∧ i ≤ ds.length ∧ ∃ S2 ρ2 acc us, Same S1 S2 ∧ Ok K T β (upd G p0 (.lst us)) S2 (L2.wipe σ vs) ρ2 H' ∧ Rps K T S2 acc us ∧
        (match compLoop vs gd ft fe acc (ds.drop i) ρ2 with | .ok a ρe => PostF K T W β G S1 σ (.ok a (backR ρ1 ρe vs)) Q | _ => False),
      ⟨_, rfl, Nat.zero_le _, S1, wipeR ρ1 vs, [], [], Same.refl _, (o1.wipe vs).guard hp0, rfl, ?_⟩, ?_⟩
    · rw [List.drop_zero]
      revert p
      cases compLoop vs gd ft fe [] ds (wipeR ρ1 vs) with
      | ok a ρe => exact fun p => PostF.mono p e1
      | err x ρe => exact fun p => p
      | bad => exact fun p => p
    rintro i m H2 ⟨rfl, hi2, S2, ρ2, acc, us, e2, o2, ra, p2⟩
    by_cases hlt : i < ds.length
    · obtain ⟨hgo, hy⟩ := (wk S2 H2 e2 o2.sh i).1 ds[i] (List.getElem?_eq_getElem hlt)
      rw [List.drop_eq_getElem_cons hlt] at p2
      refine .inr ⟨hgo, fun H' => ∃ S3 ρ3 acc us, Same S1 S3 ∧ Ok K T β (upd G p0 (.lst us)) S3 (L2.wipe σ vs) ρ3 H' ∧ Rps K T S3 acc us ∧
        (match compLoop vs gd ft fe acc (ds.drop (i + 1)) ρ3 with | .ok a ρe => PostF K T W β G S1 σ (.ok a (backR ρ1 ρe vs)) Q | _ => False), ?_, ?_⟩
      · rintro H' ⟨S3, ρ3, acc3, us3, e3, o3, r3, p3⟩
        exact ⟨ds.length - (i + 1), by omega, rfl, hlt, S3, ρ3, acc3, us3, e3, o3, r3, p3⟩
      · intro x H3 hyx
        obtain ⟨S3, x3, r3⟩ := hy x H3 hyx
        have o3 := o2.ext x3
        refine ⟨β, _, S3, ρ2, ds[i], o3, r3, ?_⟩
        unfold compLoop compTurn at p2
        cases q1 : gd ds[i] ρ2 with
        | none => rw [q1] at p2; exact p2.elim
        | some ρ3 =>
          rw [q1] at p2
          dsimp only at p2 ⊢
          intro σ3 o4 ew
          have ew' : L2.wipe σ3 vs = L2.wipe σ vs := by
            rw [ew]
            apply List.ext_getElem?
            intro j
            by_cases hj : j ∈ vs
            · by_cases hl : j < σ.length
              · rw [wipe_in hj hl, wipe_in hj (by rw [wipe_length]; exact hl)]
              · rw [List.getElem?_eq_none (by rw [wipe_length, wipe_length]; omega), List.getElem?_eq_none (by rw [wipe_length]; omega)]
            · rw [wipe_out' hj]
          refine ⟨ew', β, _, S3, ρ3, o4, ?_⟩
          revert p2
          cases ft ρ3 with
          | bad => exact fun p2 => p2
          | err x ρ4 => exact fun p2 => p2.elim
          | ok k ρ4 =>
            intro p2 S4 H4 kk e4 o5 hk
            subst hk
            dsimp only [R.bind] at p2
            cases k with
            | false =>
              refine iteF ⟨S4, wipeR ρ4 vs, acc, us, (e2.trans x3.s).trans e4, ?_, Rps.mono (x3.s.trans e4) _ _ ra, p2⟩
              have := o5.wipe vs
              rw [ew'] at this; exact this
            | true =>
              refine iteT ⟨β, _, S4, ρ4, o5, ?_⟩
              rw [if_pos rfl] at p2
              revert p2
              cases fe ρ4 with
              | bad => exact fun p2 => p2
              | err x ρ5 => exact fun p2 => p2.elim
              | ok v ρ5 =>
                intro p2 S5 H5 u e5 o6 hv
                dsimp only [R.bind] at p2
                cases v with
                | sl j => exact p2.elim
                | d y =>
                  dsimp only at p2
                  by_cases hfit : fits (acc.length + 1) = true
                  case neg => rw [if_neg hfit] at p2; exact p2.elim
                  rw [if_pos hfit] at p2
                  have hH : H5 p0 = some (.lst us) := o6.gh p0 _ upd_same
                  have rall := Rps.mono (x3.s.trans (e4.trans e5)) _ _ ra
                  refine ⟨us, hH, ?_, S5, wipeR ρ5 vs, acc ++ [y], us ++ [u], ((e2.trans x3.s).trans e4).trans e5, ?_, rall.append (Rps.one hv), p2⟩
                  · rw [rall.len]; exact Nat.lt_of_succ_le (fits_line hfit)
                  · have o7 := (o6.reguard (u' := .lst (us ++ [u])) hG0).wipe vs
                    rw [ew'] at o7; exact o7
    · have e : i = ds.length := by omega
      subst e
      rw [List.drop_length] at p2
      refine .inl ⟨(wk S2 H2 e2 o2.sh _).2 rfl, ?_⟩
      obtain ⟨o3, fr, hv⟩ := o2.unguard hG0
      have ob := o1.back o3 e2 hpl'
      refine p2 S2 H2 p0 us e2 ob ⟨fr.s, fr.g, fr.b, fun j xs q z => ?_⟩ hv ra
      by_cases hj : j ∈ vs
      · have hl : j < ρ2.length := by have := (List.getElem?_eq_some_iff.mp q).1; rwa [backR_len] at this
        rw [backR_in hj hl] at q
        have := hpl' j hj
        rw [Option.some.inj q] at this; cases this
      · rw [backR_out hj] at q
        exact fr.sl j xs q (by rw [wipe_out' hj]; exact z)
end
end Lq
namespace Lq
open PySem PySem.Spec PyProof.Rows L2
section
variable {X : Cx} {T : Tb} {W : WX} {e elt tg iter : Expr} {es ifs : List Expr} {fi : Rho → R (List D)} {gd : D → Rho → Option Rho} {ft : Rho → R Bool} {fe : Rho → R VD} {pos : Pos} {own : List (Str × Nat)} {scope : Scope}
theorem xf_lc (hc : X.calm = true) (hN : X.N.Nodup) (hi : XI X T W tg iter fi) (ok : BlkOk X.N X.env.scope scope own)
    (hg : ∀ (s : Shared) (H : Hp) (C : Addr) (cl : List (Str × Addr)) (fp : List Addr), XGo (X.blk s H scope (compEnvC scope cl C X.env) fp) T (own.map (·.2)) tg gd)
    (ht : ∀ (s : Shared) (H : Hp) (C : Addr) (cl : List (Str × Addr)) (fp : List Addr), XTs (X.blk s H scope (compEnvC scope cl C X.env) fp) T W0 ifs ft)
    (he : ∀ (s : Shared) (H : Hp) (C : Addr) (cl : List (Str × Addr)) (fp : List Addr), XE (X.blk s H scope (compEnvC scope cl C X.env) fp) T W0 elt fe) (hs : ∀ x, foldedSetIterable iter X.env x = pure x := by intro _; rfl) :
    XF X T W (.ListComp elt [⟨tg, iter, ifs, 0⟩] scope pos) (compF (own.map (·.2)) fi gd ft fe) :=
  (pe_lc (g := rGo X.K T (own.map (fun p : Str × Nat => p.2)) gd) (tt := rT X.K T W0 ft) (te := rE X.K T W0 fe) hc hN hi ok hg ht he hs).impQ fun σ H Q h => tLc_of h
/-- y = [..] -/
theorem xs_setLc (i : Nat) {y : Str} {py spos : Pos} (hc : X.calm = true) (hN : X.N.Nodup) (hi : XI X T W tg iter fi) (ok : BlkOk X.N X.env.scope scope own)
    (hg : ∀ (s : Shared) (H : Hp) (C : Addr) (cl : List (Str × Addr)) (fp : List Addr), XGo (X.blk s H scope (compEnvC scope cl C X.env) fp) T (own.map (·.2)) tg gd)
    (ht : ∀ (s : Shared) (H : Hp) (C : Addr) (cl : List (Str × Addr)) (fp : List Addr), XTs (X.blk s H scope (compEnvC scope cl C X.env) fp) T W0 ifs ft)
    (he : ∀ (s : Shared) (H : Hp) (C : Addr) (cl : List (Str × Addr)) (fp : List Addr), XE (X.blk s H scope (compEnvC scope cl C X.env) fp) T W0 elt fe)
    (hsw : swapsWith (.ListComp elt [⟨tg, iter, ifs, 0⟩] scope pos) (some (.Name y py)) spos.line X.env = pure true)
    (hy : X.N[i]? = some y := by rfl) (hyl : X.env.scope.names.lookup y = some .local := by rfl) (hs : ∀ x, foldedSetIterable iter X.env x = pure x := by intro _; rfl) :
    XS X T W (.Assign [.Name y py] (.ListComp elt [⟨tg, iter, ifs, 0⟩] scope pos) spos) (asgS i (frzE (compF (own.map (·.2)) fi gd ft fe))) :=
  (ps_setLc (g := rGo X.K T (own.map (fun p : Str × Nat => p.2)) gd) (tt := rT X.K T W0 ft) (te := rE X.K T W0 fe) hc hN hy hyl hsw hi ok hg ht he hs).impQ fun De σ H q => by
    obtain ⟨β, G, S, ρ, o, p⟩ := q
    refine tLc_of ⟨β, G, S, ρ, o, ?_⟩
    unfold asgS frzE at p
    revert p
    cases compF (own.map (·.2)) fi gd ft fe ρ with
    | bad => exact fun p => p
    | err x ρ1 => exact fun p S1 H1 c d e o q => p S1 σ H1 c d e o q
    | ok ds ρ1 => exact fun p S1 H1 q vs e o' fr hv r => p (upd S1 q (.lst vs)) _ H1 (e.trans (same_new fr.s)) ((o'.freeze fr hv).setD ⟨q, vs, rfl, upd_same, Rps.mono (same_new fr.s) _ _ r⟩)
theorem xs_setLcM (i : Nat) {y : Str} {py spos : Pos} (hc : X.calm = true) (hN : X.N.Nodup) (hi : XI X T W tg iter fi) (ok : BlkOk X.N X.env.scope scope own)
    (hg : ∀ (s : Shared) (H : Hp) (C : Addr) (cl : List (Str × Addr)) (fp : List Addr), XGo (X.blk s H scope (compEnvC scope cl C X.env) fp) T (own.map (·.2)) tg gd)
    (ht : ∀ (s : Shared) (H : Hp) (C : Addr) (cl : List (Str × Addr)) (fp : List Addr), XTs (X.blk s H scope (compEnvC scope cl C X.env) fp) T W0 ifs ft)
    (he : ∀ (s : Shared) (H : Hp) (C : Addr) (cl : List (Str × Addr)) (fp : List Addr), XE (X.blk s H scope (compEnvC scope cl C X.env) fp) T W0 elt fe)
    (hsw : swapsWith (.ListComp elt [⟨tg, iter, ifs, 0⟩] scope pos) (some (.Name y py)) spos.line X.env = pure true)
    (hy : X.N[i]? = some y := by rfl) (hyl : X.env.scope.names.lookup y = some .local := by rfl) (hs : ∀ x, foldedSetIterable iter X.env x = pure x := by intro _; rfl) :
    XS X T W (.Assign [.Name y py] (.ListComp elt [⟨tg, iter, ifs, 0⟩] scope pos) spos) (asgM i (compF (own.map (·.2)) fi gd ft fe)) :=
  (ps_setLc (g := rGo X.K T (own.map (fun p : Str × Nat => p.2)) gd) (tt := rT X.K T W0 ft) (te := rE X.K T W0 fe) hc hN hy hyl hsw hi ok hg ht he hs).impQ fun De σ H q => by
    obtain ⟨β, G, S, ρ, o, p⟩ := q
    refine tLc_of ⟨β, G, S, ρ, o, ?_⟩
    exact PostS.thnF p fun S1 H1 ρ1 ds a vs e1 o1 fr hv h1 p1 => p1 S1 _ H1 (Same.refl _) (o1.setM fr hv h1)
end

/-! ### defs -/
def GvR (K : PySem.W.Frag) (T : Tb) (S H : Hp) (r : Res) (Q : VK) (E : XK) : Prop := match r with
  | .ok d => Gv K T S H d Q
  | .err x => ∀ S' H' c d, Ext S H S' H' → XR K T S' x c d → E c d H'
  | .bad => False
/-- a def over plain data: n arguments -/
def spP (K : PySem.W.Frag) (T : Tb) (n : Nat) (F : List D → Res) : Sp := fun vs H Q E => ∃ S ds, Same S H ∧ Rps K T S ds vs ∧ ds.length = n ∧ GvR K T S H (F ds) Q E
def startR (n : Nat) (ds : List D) : Rho := ds.map .d ++ List.replicate (n - ds.length) .no
def runF (a n : Nat) (f : Rho → O) (ds : List D) : Res := if ds.length = a then (match f (startR n ds) with
  | .nx _ => .ok .non
  | .rt v ρ => (match v with
    | .d x => .ok x
    | .sl i => (match ρ[i]? with | some (.m xs) => .ok (.lst xs) | _ => .bad))
  | .rf ds _ => .ok (.lst ds)
  | .err x _ => .err x
  | _ => .bad) else .bad
theorem runF_len {a n : Nat} {f : Rho → O} (ds : List D) (h : runF a n f ds ≠ .bad) : ds.length = a := by
  unfold runF at h
  split at h
  · assumption
  · exact (h rfl).elim
section
variable {K : PySem.W.Frag} {T : Tb} {S S' H : Hp}
theorem start_cell : ∀ {ds : List D} {vs : List V} {n k i : Nat} {c : Cell}, Rps K T S ds vs → (ds.map Cell.d ++ List.replicate k .no)[i]? = some c → ∀ {β : Option Addr} {G : Hp}, CellOk K T β G S H (vs.map some ++ List.replicate n none)[i]? c
  | [], vs, n, k, i, c, h, e, β, G => by
    have hc : c = .no := by
      simp only [List.map_nil, List.nil_append] at e
      exact (List.mem_replicate.mp (List.mem_of_getElem? e)).2
    subst hc; trivial
  | d :: ds, vs, n, k, 0, c, ⟨v, r, e1, h, hs⟩, e, β, G => by
    simp at e; subst e; rw [e1]; exact ⟨v, rfl, h⟩
  | d :: ds, vs, n, k, i + 1, c, ⟨v, r, e1, h, hs⟩, e, β, G => by
    rw [e1]
    have := start_cell (n := n) (k := k) (i := i) (c := c) hs (by simpa using e) (β := β) (G := G)
    simpa using this
theorem start_noM {ds : List D} {k i : Nat} {xs : List D} (h : (ds.map Cell.d ++ List.replicate k .no)[i]? = some (.m xs)) : False := by
  have hm := List.mem_of_getElem? h
  rcases List.mem_append.mp hm with h1 | h1
  · obtain ⟨d, _, e⟩ := List.mem_map.mp h1; cases e
  · have := (List.mem_replicate.mp h1).2; cases this
/-- what stands beside S in H -/
def besides (S H : Hp) : Hp := fun b => match S b with | some _ => none | none => H b
theorem besides_same {S H : Hp} : Same (besides S H) H := fun b o e => by
  unfold besides at e
  split at e
  · cases e
  · exact e
theorem besides_apart {S H : Hp} {b : Addr} {o : HO} (e : besides S H b = some o) : S b = none := by
  unfold besides at e
  split at e
  · cases e
  · assumption
theorem besides_of {S H : Hp} {b : Addr} {o : HO} (e : H b = some o) (n : S b = none) : besides S H b = some o := by
  unfold besides; rw [n]; exact e
theorem ext_of {S H S' H' : Hp} (h0 : Same S H) (e : Same S S') (sh : Same S' H') (gh : Same (besides S H) H') (gs : ∀ b o, besides S H b = some o → S' b = none) : Ext S H S' H' where
  s := e
  h := fun b o q => by
    cases z : S b with
    | none => exact gh b o (besides_of q z)
    | some u => have := h0 b u z; rw [q] at this; cases this; exact sh b _ (e b _ z)
  sh := sh
  fr := fun b o q => by
    cases z : S b with
    | none => exact gs b o (besides_of q z)
    | some u => exact e b u z
end
section
variable {P : Program} {w : World} {K : PySem.W.Frag} {mg : Str → Option Value} {base : Heap} {T : Tb}
/-- THE RULE for a def over plain data -/
theorem fn_pure {x qual : Str} {st : Stmt} {f : Addr} {fd : FuncData} {N ps : List Str} {k : Nat} {g : Rho → O} (F : Fun K x qual st f fd) (Sc : FnScope N ps (defScope st)) (hlen : ps.length ≤ N.length)
    (hbody : ∀ (cdv : Value) (A : Around) (outer : List PySem.Env) (s : Shared) (H : Hp) (E : XK), Room k (A.deeper (envOfC qual (defScope st) s.heap.objs.size f cdv)) →
      Takes (cxOf (L2.CX P w) P w K mg base N qual (defScope st) f cdv A outer s H E) (fun c d _ H' => E c d H') →
      PassesOwn (model P w) (cxOf (L2.CX P w) P w K mg base N qual (defScope st) f cdv A outer s H E).A (cxOf (L2.CX P w) P w K mg base N qual (defScope st) f cdv A outer s H E).env (cxOf (L2.CX P w) P w K mg base N qual (defScope st) f cdv A outer s H E).xe →
      XB (cxOf (L2.CX P w) P w K mg base N qual (defScope st) f cdv A outer s H E) T (fun c d _ H' => E c d H') (defBody st) g) :
    FnOk P w K mg base (L2.CX P w) (k + 1) f fd ps (spP K T ps.length (runF ps.length N.length g)) := by
  refine F.okX Sc (fun vs H Q E h => ?_) (fun cdv A outer s H vs Q E hr h => ?_)
  · obtain ⟨S, ds, e, r, hl, _⟩ := h
    rw [r.len, hl]
  · obtain ⟨S, ds, e, r, hl, p⟩ := h
    refine ⟨_, hbody cdv A outer s H E hr (takes_of rfl rfl rfl rfl) (passes_of rfl), none, besides S H, S, startR N.length ds, ?_, ?_⟩
    · refine ⟨e, besides_same, fun b o q => besides_apart q, fun b q => (nomatch q), fun b q => (nomatch q), ?_, fun i c q => start_cell r q, fun i j xs ys q => (start_noM q).elim⟩
      unfold L2.start startR
      rw [List.length_append, List.length_append, List.length_map, List.length_map, List.length_replicate, List.length_replicate, r.len]
    · have fin : ∀ {S' σ' ρ' H'}, Same S S' → Ok K T none (besides S H) S' σ' ρ' H' → Ext S H S' H' := fun e1 o => ext_of e e1 o.sh o.gh o.gs
      unfold runF at p
      rw [if_pos hl] at p
      revert p
      cases g (startR N.length ds) with
      | nx ρ' => exact fun p S' σ' H' e1 o => p S' H' .non (fin e1 o) rfl
      | rt v ρ' =>
        intro p S' σ' H' u e1 o hv
        cases v with
        | d x => exact p S' H' u (fin e1 o) hv
        | sl i =>
          dsimp only at p
          split at p
          · rename_i xs q
            obtain ⟨a, vs', e2, e3, e4, r', o2⟩ := o.frzSlot q
            have : σ'[i]? = some (some u) := hv
            rw [e2] at this; cases this
            exact p _ H' (.ref a) (fin (e1.trans (same_new e4)) o2) ⟨a, vs', rfl, upd_same, Rps.mono (same_new e4) _ _ r'⟩
          · exact p.elim
      | err x ρ' => exact fun p S' σ' H' c d e1 o hx => p S' H' c d (fin e1 o) hx
      | rf ds' ρ' => exact fun p S' σ' H' a vs' e1 o fr hv r' => p _ H' (.ref a) (fin (e1.trans (same_new fr.s)) (o.freeze fr hv)) ⟨a, vs', rfl, upd_same, Rps.mono (same_new fr.s) _ _ r'⟩
      | bk ρ' => exact fun p => p.elim
      | ct ρ' => exact fun p => p.elim
      | bad => exact fun p => p.elim
end

theorem fn_bad {P : Program} {w : World} {K : PySem.W.Frag} {mg : Str → Option Value} {base : Heap} {T : Tb} {x qual : Str} {st : Stmt} {f : Addr} {fd : FuncData} {N ps : List Str} {k : Nat} (F : Fun K x qual st f fd) (Sc : FnScope N ps (defScope st)) :
    FnOk P w K mg base (L2.CX P w) (k + 1) f fd ps (spP K T ps.length (fun _ => .bad)) := by
  refine F.okX Sc (fun vs H Q E h => ?_) (fun cdv A outer s H vs Q E hr h => ?_)
  · obtain ⟨S, ds, e, r, hl, p⟩ := h
    exact p.elim
  · obtain ⟨S, ds, e, r, hl, p⟩ := h
    exact p.elim

/-! ### calls -/
def D.flat : D → Bool
  | .non => true
  | .bl _ => true
  | .int _ => true
  | .str _ => true
  | _ => false
def slotted : List VD → Bool
  | [] => false
  | .d _ :: vs => slotted vs
  | .sl _ :: _ => true
mutual
/-- no list in it, at any depth -/
def D.noL : D → Bool
  | .lst _ => false
  | .scr _ => false
  | .tup xs => noLs xs
  | .obj _ xs => noLs xs
  | _ => true
def noLs : List D → Bool
  | [] => true
  | d :: ds => d.noL && noLs ds
end
/-- the slots' own lists among some values become plain data -/
def frzAll : List VD → Rho → Option Rho
  | [], ρ => some ρ
  | .d _ :: vs, ρ => frzAll vs ρ
  | .sl i :: vs, ρ => match ρ[i]? with
    | some (.m xs) => frzAll vs (ρ.set i (.d (.lst xs)))
    | _ => none
def callE (F : List D → Res) (fs : Rho → R (List VD)) : Rho → R VD := fun ρ => (fs ρ).bind fun vs ρ1 => match resAll vs ρ1 with
  | some ds => (match F ds with
    | .ok d => if slotted vs && !d.noL then (match frzAll vs ρ1 with | some ρ2 => .ok (.d d) ρ2 | none => .bad) else .ok (.d d) ρ1
    | .err x => if slotted vs && !(noLs x.fs) then .bad else .err x ρ1
    | .bad => .bad)
  | none => .bad
section
variable {K : PySem.W.Frag} {T : Tb} {W : WX} {β : Option Addr} {G S S' H : Hp} {σ : L2.St} {ρ : Rho}
theorem Rp.flat {d : D} {v : V} (h : d.flat = true) (r : Rp K T S d v) (S' : Hp) : Rp K T S' d v := by
  cases d with
  | lst _ => cases h
  | tup _ => cases h
  | obj _ _ => cases h
  | scr _ => cases h
  | _ => exact r
theorem Rps.flat : ∀ {ds : List D} {vs : List V}, (ds.all D.flat) = true → Rps K T S ds vs → ∀ S', Rps K T S' ds vs
  | [], _, _, r, _ => r
  | d :: ds, _, h, ⟨v, r, e1, h1, hs⟩, S' => by
    rw [List.all_cons, Bool.and_eq_true] at h
    exact ⟨v, r, e1, h1.flat h.1 S', Rps.flat h.2 hs S'⟩
/-- all of S' but lists -/
def ButL (S S' : Hp) : Prop := ∀ b o, S b = some o → (∀ vs, o ≠ .lst vs) → S' b = some o
theorem ButL.tup {a : Addr} {xs : List V} (e : ButL S S') (h : SqT K S a xs) : SqT K S' a xs := by
  rcases h with h | h
  · rcases h with h | ⟨o, h⟩
    · exact .inl (.inl (e _ _ h fun _ z => by cases z))
    · exact .inl (.inr ⟨o, e _ _ h fun _ z => by cases z⟩)
  · exact .inr h
theorem ButL.ob {t : Nat} {a : Addr} {vs : List V} (e : ButL S S') (h : OB T S t a vs) : OB T S' t a vs := by
  rcases h with ⟨h, dd, h1, h2⟩ | ⟨h, dd, h1, h2⟩
  · exact .inl ⟨h, dd, e _ _ h1 (fun _ z => by cases z), e _ _ h2 (fun _ z => by cases z)⟩
  · exact .inr ⟨h, dd, e _ _ h1 (fun _ z => by cases z), e _ _ h2 (fun _ z => by cases z)⟩
mutual
theorem Rp.noL (e : ButL S S') : ∀ (d : D) (v : V), d.noL = true → Rp K T S d v → Rp K T S' d v
  | .non, _, _, h => h
  | .bl _, _, _, h => h
  | .int _, _, _, h => h
  | .str _, _, _, h => h
  | .lst _, _, n, _ => by cases n
  | .scr _, _, n, _ => by cases n
  | .tup ds, _, n, ⟨a, vs, e1, h, hs⟩ => ⟨a, vs, e1, e.tup h, Rps.noL e ds vs n hs⟩
  | .obj _ ds, _, n, ⟨a, vs, e1, h, hs⟩ => ⟨a, vs, e1, e.ob h, Rps.noL e ds vs n hs⟩
theorem Rps.noL (e : ButL S S') : ∀ (ds : List D) (vs : List V), noLs ds = true → Rps K T S ds vs → Rps K T S' ds vs
  | [], _, _, h => h
  | d :: ds, _, n, ⟨v, r, e1, h, hs⟩ => ⟨v, r, e1, Rp.noL e d v (Bool.and_eq_true_iff.1 n).1 h, Rps.noL e ds r (Bool.and_eq_true_iff.1 n).2 hs⟩
end
theorem frzAll_ne {i : Nat} {y : D} : ∀ {vs : List VD} {ρ ρ2 : Rho}, ρ[i]? = some (.d y) → frzAll vs ρ = some ρ2 → ∀ j, VD.sl j ∈ vs → j ≠ i
  | [], _, _, _, _, _, hj => by cases hj
  | .d x :: vs, ρ, ρ2, hi, h, j, hj => by
    rcases List.mem_cons.1 hj with z | hj
    · cases z
    · exact frzAll_ne hi (show frzAll vs ρ = some ρ2 from h) j hj
  | .sl k :: vs, ρ, ρ2, hi, h, j, hj => by
    unfold frzAll at h
    split at h
    · rename_i xs q
      have hk : k ≠ i := fun z => by subst z; rw [hi] at q; cases q
      rcases List.mem_cons.1 hj with z | hj
      · cases z; exact hk
      · exact frzAll_ne (ρ := ρ.set k (.d (.lst xs))) (by rw [List.getElem?_set_ne hk]; exact hi) h j hj
    · cases h
theorem resAll_out {i : Nat} {c : Cell} {ρ : Rho} : ∀ {vs : List VD}, (∀ j, VD.sl j ∈ vs → j ≠ i) → resAll vs (ρ.set i c) = resAll vs ρ
  | [], _ => rfl
  | .d x :: vs, h => by
    have := resAll_out (c := c) (ρ := ρ) (vs := vs) fun j hj => h j (List.mem_cons_of_mem _ hj)
    simp only [resAll, res, this]
  | .sl k :: vs, h => by
    have := resAll_out (c := c) (ρ := ρ) (vs := vs) fun j hj => h j (List.mem_cons_of_mem _ hj)
    have hk : k ≠ i := h k List.mem_cons_self
    simp only [resAll, res, this, List.getElem?_set_ne (Ne.symm hk)]
theorem Ok.frzAll : ∀ {vs : List VD} {us : List V} {ds : List D} {ρ ρ2 : Rho} {S : Hp}, Ok K T β G S σ ρ H → RpVs K T σ S vs us → Lq.resAll vs ρ = some ds → Lq.frzAll vs ρ = some ρ2 → ∃ S2, Same S S2 ∧ Ok K T β G S2 σ ρ2 H ∧ Rps K T S2 ds us
  | [], us, ds, ρ, ρ2, S, o, h, e, f => by
    simp only [Lq.resAll, Option.some.injEq] at e
    simp only [Lq.frzAll, Option.some.injEq] at f
    subst e; subst f
    exact ⟨S, Same.refl _, o, h⟩
  | .d x :: vs, us, ds, ρ, ρ2, S, o, ⟨u, r, e1, h, h2⟩, e, f => by
    simp only [Lq.resAll, Lq.res] at e
    split at e
    · rename_i a b q1 q2
      cases q1
      cases e
      obtain ⟨S2, s2, o2, r2⟩ := Ok.frzAll o h2 q2 (show Lq.frzAll vs ρ = some ρ2 from f)
      exact ⟨S2, s2, o2, u, r, e1, Rp.mono s2 _ _ h, r2⟩
    · cases e
  | .sl i :: vs, us, ds, ρ, ρ2, S, o, ⟨u, r, e1, h, h2⟩, e, f => by
    unfold Lq.frzAll at f
    split at f
    · rename_i xs q
      obtain ⟨a, ws, e2, e3, e4, r5, o2⟩ := o.frzSlot q
      have hu : σ[i]? = some (some u) := h
      rw [e2] at hu; cases hu
      have hl : i < ρ.length := (List.getElem?_eq_some_iff.mp q).1
      have hne := frzAll_ne (i := i) (y := .lst xs) (ρ := ρ.set i (.d (.lst xs))) (List.getElem?_set_self hl) f
      simp only [Lq.resAll, Lq.res, q] at e
      split at e
      · rename_i a' b q1 q2
        cases q1
        cases e
        obtain ⟨S2, s2, o3, r3⟩ := Ok.frzAll o2 (RpVs.mono (same_new e4) h2) ((resAll_out hne).trans q2) f
        exact ⟨S2, (same_new e4).trans s2, o3, .ref a, r, e1, ⟨a, ws, rfl, s2 _ _ upd_same, Rps.mono ((same_new e4).trans s2) _ _ r5⟩, r3⟩
      · cases e
    · cases f
theorem unslot : ∀ {vs : List VD} {us : List V} {ds : List D}, slotted vs = false → RpVs K T σ S vs us → resAll vs ρ = some ds → Rps K T S ds us
  | [], _, _, _, h, e => by simp only [resAll, Option.some.injEq] at e; subst e; exact h
  | .d x :: vs, _, _, hs, ⟨u, r, e1, h, h2⟩, e => by
    simp only [resAll, res] at e
    split at e
    · rename_i a b q1 q2
      cases q1
      cases e
      exact ⟨u, r, e1, h, unslot (show slotted vs = false from hs) h2 q2⟩
    · cases e
  | .sl _ :: _, _, _, hs, _, _ => by cases hs
/-- S with the slots' own lists -/
def withSlots (S H : Hp) (us : List V) : Hp := fun b => match S b with
  | some o => some o
  | none => if V.ref b ∈ us then (match H b with | some (.lst vs) => some (.lst vs) | _ => none) else none
theorem ws_same {us : List V} : Same S (withSlots S H us) := fun b o e => by unfold withSlots; rw [e]
theorem ws_sub {us : List V} (e : Same S H) : Same (withSlots S H us) H := fun b o q => by
  unfold withSlots at q
  split at q
  · rename_i u z
    cases q; exact e b _ z
  · split at q
    · split at q
      · rename_i vs z; cases q; exact z
      · cases q
    · cases q
theorem withSlots_rps {us0 : List V} (o : Ok K T β G S σ ρ H) : ∀ {vs : List VD} {us : List V} {ds : List D}, (∀ u ∈ us, u ∈ us0) → RpVs K T σ S vs us → resAll vs ρ = some ds → Rps K T (withSlots S H us0) ds us
  | [], _, _, _, h, e => by simp only [resAll, Option.some.injEq] at e; subst e; exact h
  | v :: vs, _, _, hm, ⟨u, r, e1, h, h2⟩, e => by
    simp only [resAll] at e
    split at e
    · rename_i a b q1 q2
      cases e
      refine ⟨u, r, e1, ?_, withSlots_rps o (fun z hz => hm z (by rw [e1]; exact List.mem_cons_of_mem _ hz)) h2 q2⟩
      have hu : u ∈ us0 := hm u (by rw [e1]; exact List.mem_cons_self)
      rcases o.res h q1 with h3 | ⟨p, ws, xs, e3, e4, e5, r5⟩
      · exact Rp.mono ws_same _ _ h3
      · subst e3; subst e4
        refine ⟨p, ws, rfl, ?_, Rps.mono ws_same _ _ r5⟩
        unfold withSlots
        split
        · rename_i o' z
          have := o.sh p _ z
          rw [e5] at this; cases this; rfl
        · rw [if_pos hu, e5]
    · cases e
/-- behind a call that was given slots: they are slots again -/
theorem ext_back {us : List V} {S' H' : Hp} (h0 : Same S H) (e : Ext (withSlots S H us) H S' H') : Ext S H (fun b => match S b, withSlots S H us b with | none, some _ => none | _, _ => S' b) H' where
  s := fun b o q => by
    show (match S b, withSlots S H us b with | none, some _ => none | _, _ => S' b) = some o
    rw [q]; exact e.s b o (ws_same b o q)
  h := e.h
  sh := fun b o q => by
    have q' : (match S b, withSlots S H us b with | none, some _ => none | _, _ => S' b) = some o := q
    split at q'
    · cases q'
    · exact e.sh b o q'
  fr := fun b o q => by
    show (match S b, withSlots S H us b with | none, some _ => none | _, _ => S' b) = S b
    split
    · rename_i z _; rw [z]
    · rename_i hn
      rw [e.fr b o q]
      cases z : S b with
      | some u => exact ws_same b u z
      | none =>
        cases y : withSlots S H us b with
        | none => rfl
        | some u => exact (hn u z y).elim
theorem ext_butL {us : List V} {S' H' : Hp} (e : Ext (withSlots S H us) H S' H') : ButL S' (fun b => match S b, withSlots S H us b with | none, some _ => none | _, _ => S' b) := fun b o q n => by
  show (match S b, withSlots S H us b with | none, some _ => none | _, _ => S' b) = some o
  split
  · rename_i o' z y
    have z2 := e.s b o' y
    rw [q] at z2
    cases z2
    unfold withSlots at y
    rw [z] at y
    dsimp only at y
    split at y
    · split at y
      · cases y; exact (n _ rfl).elim
      · cases y
    · cases y
  · exact q
end
section
variable {X : Cx} {T : Tb} {W : WX} {e : Expr} {es : List Expr} {fs : Rho → R (List VD)} {pos : Pos}
theorem call_of {K : PySem.W.Frag} {F : List D → Res} {n : Nat} {σ : L2.St} {H : Hp} {Q : VK} (hn : ∀ ds, F ds ≠ .bad → ds.length = n) (h : rE K T W (callE F fs) σ H Q) : tCallS (spP K T n F) (WE W) (rA K T W fs) σ H Q := by
  obtain ⟨β, G, S, ρ, o, p⟩ := h
  refine ⟨β, G, S, ρ, o, Post.thn (Rl := RpVs K T σ) p fun S1 H1 ρ1 vs us e1 o1 h1 p1 => ?_⟩
  split at p1
  case h_2 => exact p1.elim
  case h_1 ds q =>
  cases hs : slotted vs with
  | false =>
    refine ⟨S1, ds, o1.sh, unslot hs h1 q, hn ds (fun z => by rw [z] at p1; exact p1), ?_⟩
    rw [hs] at p1
    revert p1
    cases F ds with
    | ok d => exact fun p1 => p1.gv o1
    | err x => exact fun p1 S2 H2 c d e2 hx => p1 S2 H2 c d e2.s (o1.ext e2) hx
    | bad => exact fun p1 => p1
  | true =>
    have hb : ds.length = n := hn ds (fun z => by rw [z] at p1; exact p1)
    rw [hs] at p1
    revert p1
    cases hF : F ds with
    | ok d =>
      intro p1
      dsimp only at p1
      cases hL : d.noL with
      | false =>
        rw [hL] at p1
        simp only [Bool.not_false, Bool.and_self, if_true] at p1
        split at p1
        · rename_i ρ2 f
          obtain ⟨S2, s2, o2, r2⟩ := Ok.frzAll o1 h1 q f
          refine ⟨S2, ds, o2.sh, r2, hb, ?_⟩
          rw [hF]
          exact (p1.mono s2).gv o2
        · exact p1.elim
      | true =>
        rw [hL] at p1
        refine ⟨withSlots S1 H1 us, ds, ws_sub o1.sh, withSlots_rps o1 (fun _ hz => hz) h1 q, hb, ?_⟩
        rw [hF]
        intro S2 H2 v e2 r2
        have e3 := ext_back o1.sh e2
        exact p1 _ H2 v e3.s (o1.ext e3) (Rp.noL (ext_butL e2) _ _ hL r2)
    | err x =>
      intro p1
      dsimp only at p1
      cases hL : noLs x.fs with
      | false =>
        rw [hL] at p1
        exact p1.elim
      | true =>
        rw [hL] at p1
        refine ⟨withSlots S1 H1 us, ds, ws_sub o1.sh, withSlots_rps o1 (fun _ hz => hz) h1 q, hb, ?_⟩
        rw [hF]
        intro S2 H2 c d e2 hx
        have e3 := ext_back o1.sh e2
        obtain ⟨h3, dd, ws, h4, h5, h6⟩ := hx
        exact p1 _ H2 c d e3.s (o1.ext e3) ⟨h3, dd, ws, h4, ext_butL e2 _ _ h5 (fun _ z => by cases z), Rps.noL (ext_butL e2) _ _ hL h6⟩
    | bad => exact fun p1 => p1.elim
/-- f(e, ..) -/
theorem xe_call {F : List D → Res} {k : Nat} {f : Addr} {fd : FuncData} {ps : List Str} {n : Nat} {x : Str} {p : Pos} (Fk : FnOk X.prog X.w X.K X.mg X.base (L2.CX X.prog X.w) k f fd ps (spP X.K T n F)) (hr : Room k X.A) (hm : X.mg x = some (.ref f)) (hk : PySem.W.keepIn X.K (.ref f) = true) (hb : Binds X.K fd ps [])
    (tk : Takes X W) (hn : ∀ ds, F ds ≠ .bad → ds.length = n) (ha : XA X T W (e :: es) fs) (hg : L2.Gl X x := by rfl) (hdb : (x == ("__debug__" : Str)) = false := by decide) (he : starEach (e :: es) X.env = (false, eval e X.env) :: starEach es X.env := by rfl) (hpl : (backTo pos (starEach es X.env)).any (·.1) = false := by rfl) :
    XE X T W (.Call (.Name x p) (e :: es) [] pos) (callE F fs) :=
  (pe_callS Fk hr hg hm hk hb (fun σ => passAt tk σ) ha hdb he hpl).impQ fun _ _ _ h => call_of hn h
end
end Lq
namespace Lq
open PySem PySem.Spec PyProof.Rows L2
/-! ### operations over data -/
def addD : D → D → Option D
  | .int i, .int j => some (.int (i + j))
  | .str a, .str b => if fits (a.length + b.length) then some (.str (a ++ b)) else none
  | .lst xs, .lst ys => if fits (xs.length + ys.length) then some (.lst (xs ++ ys)) else none
  | .tup xs, .tup ys => if fits (xs.length + ys.length) then some (.tup (xs ++ ys)) else none
  | _, _ => none
def catF : D → D → Option (List D)
  | .lst xs, .lst ys => if fits (xs.length + ys.length) then some (xs ++ ys) else none
  | _, _ => none
def subD : D → D → Option D
  | .int i, .int j => some (.int (i - j))
  | _, _ => none
def big (i : Int) : Bool := Nat.ble i.natAbs 18446744073709551615
def mulD : D → D → Option D
  | .int i, .int j => if big i || big j then some (.int (i * j)) else none
  | .lst xs, .int k => if decide (0 ≤ k) && (decide (k ≤ 1000) && decide (xs.length ≤ 1000)) then some (.lst (List.replicate k.toNat xs).flatten) else none
  | .tup xs, .int k => if !xs.isEmpty && (decide (2 ≤ k) && (decide (k ≤ 1000) && decide (xs.length ≤ 1000))) then some (.tup (List.replicate k.toNat xs).flatten) else none
  | .str x, .int k => if decide (2 ≤ k) && (decide (k ≤ 1000) && (decide (0 < x.length) && decide (x.length ≤ 1000))) then some (.str ⟨(List.replicate k.toNat x.cps).foldl (· ++ ·) #[]⟩) else none
  | _, _ => none
def fdivD : D → D → Option D
  | .int i, .int j => if decide (0 < j) && decide (j < 1073741824) then some (.int (i / j)) else none
  | _, _ => none
def modD : D → D → Option D
  | .int i, .int j => if decide (0 < j) then some (.int (i % j)) else none
  | _, _ => none
def powD : D → D → Option D
  | .int i, .int j => if decide (0 ≤ j) && (decide (j ≤ 1000000) && decide (i.natAbs < 2 ^ 64)) then some (.int (i ^ j.toNat)) else none
  | _, _ => none
def negD : D → Option D
  | .int i => some (.int (-i))
  | _ => none
def ltD : D → D → Option D
  | .int i, .int j => some (.bl (decide (i < j)))
  | .str i, .str j => some (.bl (decide (i.cps.toList < j.cps.toList)))
  | _, _ => none
def leD : D → D → Option D
  | .int i, .int j => some (.bl (decide (i ≤ j)))
  | _, _ => none
def gtD : D → D → Option D
  | .int i, .int j => some (.bl (decide (j < i)))
  | _, _ => none
def geD : D → D → Option D
  | .int i, .int j => some (.bl (decide (j ≤ i)))
  | _, _ => none
mutual
def toPy : D → PyData
  | .non => .none
  | .bl b => .bool b
  | .int i => .int i
  | .str s => .str s
  | .lst xs => .list (toPys xs)
  | .tup xs => .tuple (toPys xs)
  | .obj _ _ => .none
  | .scr _ => .none
def toPys : List D → List PyData
  | [] => []
  | x :: xs => toPy x :: toPys xs
end
mutual
def plainD : D → Bool
  | .lst xs => plainDs xs
  | .tup xs => plainDs xs
  | .obj _ _ => false
  | .scr _ => false
  | _ => true
def plainDs : List D → Bool
  | [] => true
  | x :: xs => plainD x && plainDs xs
end
mutual
def deq : D → D → Bool
  | .non, .non => true
  | .bl a, .bl b => a == b
  | .bl a, .int j => (if a then 1 else 0) == j
  | .int i, .bl b => i == (if b then 1 else 0)
  | .int i, .int j => i == j
  | .str x, .str y => x == y
  | .lst xs, .lst ys => deqs xs ys
  | .tup xs, .tup ys => deqs xs ys
  | .obj _ _, .non => true
  | .non, .obj _ _ => true
  | .obj _ _, .obj _ _ => true
  | .scr _, .non => true
  | .non, .scr _ => true
  | .scr _, .scr _ => true
  | .obj _ _, .scr _ => true
  | .scr _, .obj _ _ => true
  | _, _ => false
def deqs : List D → List D → Bool
  | [], [] => true
  | x :: xs, y :: ys => deq x y && deqs xs ys
  | _, _ => false
end
def okQ (d : D) : Bool := plainD d && SeqAt.shaped (toPy d)
def sameKind : D → D → Bool
  | .non, .non => true
  | .bl _, .bl _ => true
  | .int _, .int _ => true
  | .str _, .str _ => true
  | _, _ => false
def eqD (x y : D) : Option D := if sameKind x y || (okQ x && okQ y) then some (.bl (deq x y)) else none
def neD (x y : D) : Option D := if sameKind x y || (okQ x && okQ y) then some (.bl (!deq x y)) else none
mutual
theorem deq_eqv : ∀ x y : D, PyData.eqv (toPy x) (toPy y) = deq x y
  | .non, y => by cases y <;> simp [toPy, PyData.eqv, deq]
  | .bl a, y => by cases y <;> simp [toPy, PyData.eqv, deq]
  | .int a, y => by cases y <;> simp [toPy, PyData.eqv, deq]
  | .str a, y => by cases y <;> simp [toPy, PyData.eqv, deq]
  | .lst xs, y => by
    cases y with
    | lst ys => simp only [toPy, PyData.eqv, deq]; exact deqs_eqv xs ys
    | _ => simp [toPy, PyData.eqv, deq]
  | .tup xs, y => by
    cases y with
    | tup ys => simp only [toPy, PyData.eqv, deq]; exact deqs_eqv xs ys
    | _ => simp [toPy, PyData.eqv, deq]
  | .obj a b, y => by cases y <;> simp [toPy, PyData.eqv, deq]
  | .scr a, y => by cases y <;> simp [toPy, PyData.eqv, deq]
theorem deqs_eqv : ∀ xs ys : List D, PyData.eqvAll (toPys xs) (toPys ys) = deqs xs ys
  | [], [] => by simp [toPys, PyData.eqvAll, deqs]
  | [], _ :: _ => by simp [toPys, PyData.eqvAll, deqs]
  | _ :: _, [] => by simp [toPys, PyData.eqvAll, deqs]
  | x :: xs, y :: ys => by simp only [toPys, PyData.eqvAll, deqs]; rw [deq_eqv x y, deqs_eqv xs ys]
end
section
variable {K : PySem.W.Frag} {T : Tb} {S H : Hp}
mutual
theorem Rp.dp (e : Same S H) : ∀ (d : D) (v : V), plainD d = true → Rp K T S d v → Dp K H v (toPy d)
  | .non, _, _, h => by rw [show _ = V.non from h]; exact .non
  | .bl b, _, _, h => by rw [show _ = V.bl b from h]; exact .bl b
  | .int b, _, _, h => by rw [show _ = V.int b from h]; exact .int b
  | .str b, _, _, h => by rw [show _ = V.str b from h]; exact .str b
  | .lst xs, _, hp, ⟨a, vs, e1, q, r⟩ => by rw [e1]; exact .lst (SqL.of (e _ _ q)) (Rps.dp e xs vs hp r)
  | .tup xs, _, hp, ⟨a, vs, e1, q, r⟩ => by rw [e1]; exact .tup (same_tup e q) (Rps.dp e xs vs hp r)
  | .obj _ _, _, hp, _ => by cases hp
  | .scr _, _, hp, _ => by cases hp
theorem Rps.dp (e : Same S H) : ∀ (ds : List D) (vs : List V), plainDs ds = true → Rps K T S ds vs → DpAll K H vs (toPys ds)
  | [], _, _, h => by rw [show _ = [] from h]; exact .nil
  | d :: ds, _, hp, ⟨v, r, e1, h, hs⟩ => by
    have hp' : (plainD d && plainDs ds) = true := hp
    rw [Bool.and_eq_true] at hp'
    rw [e1]; exact .cons (Rp.dp e d v hp'.1 h) (Rps.dp e ds r hp'.2 hs)
end
theorem RpH.dp {d : D} {v : V} (h : RpH K T S H d v) (e : Same S H) (hp : plainD d = true) : Dp K H v (toPy d) := by
  rcases h with h | ⟨a, vs, xs, rfl, rfl, q, r⟩
  · exact Rp.dp e d v hp h
  · exact .lst (SqL.of q) (Rps.dp e xs vs hp r)
end
section
variable {X : Cx} {T : Tb}
def rAdd4 (K : PySem.W.Frag) : R2 := fun x y H Q => rI0 (fun i j => .int (i + j)) x y H Q ∨ (∃ i j, x = .str i ∧ y = .str j ∧ i.length + j.length ≤ sizeLine ∧ Q (.str (i ++ j)) H) ∨ rCat x y H Q ∨ rCatA K x y H Q
theorem op_addA : OpR X (binaryOp .Add) (rAdd4 X.K) := op_add.or (op_add_str.or (op_cat.or op_catA))
theorem p_add {K : PySem.W.Frag} : Prim2 K T (rAdd4 K) addD := fun S H x y dx dy d Q e hx hy h g => by
  unfold addD at h
  split at h
  · cases h; exact .inl ⟨_, _, hx.int, hy.int, g.now e rfl⟩
  · split at h
    · rename_i hf; cases h; exact .inr (.inl ⟨_, _, hx.str, hy.str, fits_line hf, g.now e rfl⟩)
    · cases h
  · split at h
    · rename_i hf
      cases h
      obtain ⟨a, vs, rfl, q, r⟩ := hx.lst e
      obtain ⟨b, ws, rfl, q', r'⟩ := hy.lst e
      exact .inr (.inr (.inl ⟨a, b, vs, ws, rfl, rfl, q, q', by rw [r.len, r'.len]; exact fits_line hf, fun p hp => g.newL e (r.append r') p hp⟩))
    · cases h
  · split at h
    · rename_i hf
      cases h
      obtain ⟨a, vs, rfl, q, r⟩ := hx.tup e
      obtain ⟨b, ws, rfl, q', r'⟩ := hy.tup e
      refine .inr (.inr (.inr ⟨a, b, vs, ws, rfl, rfl, q, q', by rw [r.len, r'.len]; exact fits_line hf, fun z => ?_, fun _ z => ?_, fun _ _ p hp => g.newT e (r.append r') p hp⟩))
      · rcases hy with hy | ⟨_, _, _, _, ee, _⟩
        · refine g.now e ?_
          have hl := r.len
          rw [z] at hl
          rw [List.length_eq_zero_iff.mp hl.symm, List.nil_append]
          exact hy
        · cases ee
      · rcases hx with hx | ⟨_, _, _, _, ee, _⟩
        · refine g.now e ?_
          have hl := r'.len
          rw [z] at hl
          rw [List.length_eq_zero_iff.mp hl.symm, List.append_nil]
          exact hx
        · cases ee
    · cases h
  · cases h
theorem p_catF {K : PySem.W.Frag} : Prim2F K T rCat catF := fun S H x y dx dy d Q e hx hy h g => by
  unfold catF at h
  split at h
  · split at h
    · rename_i hf
      cases h
      obtain ⟨a, vs, rfl, q, r⟩ := hx.lst e
      obtain ⟨b, ws, rfl, q', r'⟩ := hy.lst e
      exact ⟨a, b, vs, ws, rfl, rfl, q, q', by rw [r.len, r'.len]; exact fits_line hf, fun p hp => g.new e (r.append r') p hp⟩
    · cases h
  · cases h
theorem p_sub {K : PySem.W.Frag} : Prim2 K T (rI0 fun i j => .int (i - j)) subD := fun S H x y dx dy d Q e hx hy h g => by
  unfold subD at h
  split at h
  · cases h; exact ⟨_, _, hx.int, hy.int, g.now e rfl⟩
  · cases h
def rRepS : R2 := fun x y H Q => ∃ z k, x = .str z ∧ y = .int k ∧ 2 ≤ k ∧ k ≤ 1000 ∧ 0 < z.length ∧ z.length ≤ 1000 ∧ Q (.str ⟨(List.replicate k.toNat z.cps).foldl (· ++ ·) #[]⟩) H
theorem rep_size (z : Array Nat) : ∀ (n : Nat) (a : Array Nat), ((List.replicate n z).foldl (· ++ ·) a).size = a.size + z.size * n
  | 0, a => by simp
  | n + 1, a => by
    rw [List.replicate_succ, List.foldl_cons, rep_size z n, Array.size_append, Nat.mul_succ]
    omega
theorem op_repS : OpR X (binaryOp .Mult) rRepS := by
  intro pins s σ H x y v u Q I rx ry h
  obtain ⟨z, k, rfl, rfl, h2, h3, h4, h5, q⟩ := h
  obtain ⟨t, rfl⟩ := rx
  obtain ⟨t', rfl⟩ := ry
  have hz : z.length * k.toNat ≤ 1000000 := Nat.le_trans (Nat.mul_le_mul h5 (show k.toNat ≤ 1000 by omega)) (by decide)
  have hz' : (z.length : Int) * k ≤ 1000000 := by
    have e : ((k.toNat : Nat) : Int) = k := by omega
    have h7 : ((z.length * k.toNat : Nat) : Int) ≤ 1000000 := by omega
    rw [Int.natCast_mul, e] at h7; exact h7
  refine PySem.P.mul_str ?_ (fun _ _ hgt => ?_) (fun _ _ => ?_) ?_
  · rw [decide_eq_false (by omega), decide_eq_false (by omega)]; rfl
  · have h6 : (2 ^ 63 - 1 : Int) / k < z.length := hgt
    have := (Int.ediv_lt_iff_lt_mul (by omega)).mp h6
    omega
  · unfold Builtin.Str.tooLong; exact decide_eq_false (by rw [sizeLine_eq]; omega)
  · rw [if_neg (by omega), if_neg (by
      rw [Bool.or_eq_true]
      rintro (e | e)
      · have := eq_of_beq e; omega
      · have := eq_of_beq e; omega)]
    refine ⟨?_, .str _, H, I.tok _, ⟨_, rfl⟩, q⟩
    show ((List.replicate k.toNat z.cps).foldl (· ++ ·) #[]).size ≤ sizeLine
    rw [rep_size, sizeLine_eq]
    have : (#[] : Array Nat).size + z.cps.size * k.toNat = z.length * k.toNat := by simp [Str.length]
    omega
def rMul3 (K : PySem.W.Frag) : R2 := fun x y H Q => L2.rI CMul (fun i j => .int (i * j)) x y H Q ∨ rRep x y H Q ∨ rRepT K x y H Q ∨ rRepS x y H Q
theorem op_mulA : OpR X (binaryOp .Mult) (rMul3 X.K) := op_mul.or (op_rep.or (op_repT.or op_repS))
theorem Rps.rep {K : PySem.W.Frag} {S : Hp} {ds : List D} {vs : List V} (r : Rps K T S ds vs) : ∀ n : Nat, Rps K T S (List.replicate n ds).flatten (List.replicate n vs).flatten
  | 0 => rfl
  | n + 1 => by rw [List.replicate_succ, List.replicate_succ, List.flatten_cons, List.flatten_cons]; exact r.append (Rps.rep r n)
theorem p_mul {K : PySem.W.Frag} : Prim2 K T (rMul3 K) mulD := fun S H x y dx dy d Q e hx hy h g => by
  unfold mulD at h
  split at h
  · split at h
    · rename_i hb
      cases h
      refine .inl ⟨_, _, hx.int, hy.int, ?_, g.now e rfl⟩
      rw [Bool.or_eq_true] at hb
      rcases hb with hb | hb <;> (unfold big at hb; have hn := Nat.le_of_ble_eq_true hb)
      · exact .inl ⟨by omega, by omega⟩
      · exact .inr ⟨by omega, by omega⟩
    · cases h
  · split at h
    · rename_i hb
      cases h
      simp only [Bool.and_eq_true, decide_eq_true_eq] at hb
      obtain ⟨a, vs, rfl, q, r⟩ := hx.lst e
      refine .inr (.inl ⟨a, _, vs, rfl, hy.int, q, by omega, by omega, ?_, fun p hp => g.newL e (r.rep _) p hp⟩)
      rw [r.len]
      exact Nat.le_trans (Nat.mul_le_mul hb.2.2 (show _ ≤ 1000 by omega)) (by rw [sizeLine_eq]; decide)
    · cases h
  · split at h
    · rename_i hb
      cases h
      simp only [Bool.and_eq_true, decide_eq_true_eq, Bool.not_eq_true', List.isEmpty_eq_false_iff] at hb
      obtain ⟨a, vs, rfl, q, r⟩ := hx.tup e
      refine .inr (.inr (.inl ⟨a, _, vs, rfl, hy.int, q, ?_, hb.2.1, hb.2.2.1, by rw [r.len]; exact hb.2.2.2, fun p hp => g.newT e (r.rep _) p hp⟩))
      intro z
      have hl := r.len
      rw [z] at hl
      exact hb.1 (List.length_eq_zero_iff.mp hl.symm)
    · cases h
  · split at h
    · rename_i hb
      cases h
      simp only [Bool.and_eq_true, decide_eq_true_eq] at hb
      exact .inr (.inr (.inr ⟨_, _, hx.str, hy.int, hb.1, hb.2.1, hb.2.2.1, hb.2.2.2, g.now e rfl⟩))
    · cases h
  · cases h
theorem p_fdiv {K : PySem.W.Frag} : Prim2 K T (L2.rI CDiv fun i j => .int (i / j)) fdivD := fun S H x y dx dy d Q e hx hy h g => by
  unfold fdivD at h
  split at h
  · split at h
    · rename_i hb
      cases h
      rw [Bool.and_eq_true] at hb
      exact ⟨_, _, hx.int, hy.int, ⟨of_decide_eq_true hb.1, of_decide_eq_true hb.2⟩, g.now e rfl⟩
    · cases h
  · cases h
theorem p_mod {K : PySem.W.Frag} : Prim2 K T (L2.rI (fun _ j => 0 < j) fun i j => .int (i % j)) modD := fun S H x y dx dy d Q e hx hy h g => by
  unfold modD at h
  split at h
  · split at h
    · rename_i hb
      cases h
      exact ⟨_, _, hx.int, hy.int, of_decide_eq_true hb, g.now e rfl⟩
    · cases h
  · cases h
theorem p_pow {K : PySem.W.Frag} : Prim2 K T (L2.rI CPow fun i j => .int (i ^ j.toNat)) powD := fun S H x y dx dy d Q e hx hy h g => by
  unfold powD at h
  split at h
  · split at h
    · rename_i hb
      cases h
      simp only [Bool.and_eq_true] at hb
      exact ⟨_, _, hx.int, hy.int, ⟨of_decide_eq_true hb.1, of_decide_eq_true hb.2.1, of_decide_eq_true hb.2.2⟩, g.now e rfl⟩
    · cases h
  · cases h
theorem p_neg {K : PySem.W.Frag} : Prim1 K T (rU fun i => .int (-i)) negD := fun S H x dx d Q e hx h g => by
  unfold negD at h
  split at h
  · cases h; exact ⟨_, hx.int, g.now e rfl⟩
  · cases h
def rLt2 : R2 := fun x y H Q => rI0 (fun i j => .bl (decide (i < j))) x y H Q ∨ (∃ i j, x = .str i ∧ y = .str j ∧ Q (.bl (decide (i.cps.toList < j.cps.toList))) H)
theorem op_ltA : OpR X (compareOp .Lt) rLt2 := op_lt.or op_lt_str
theorem p_lt {K : PySem.W.Frag} : Prim2 K T rLt2 ltD := fun S H x y dx dy d Q e hx hy h g => by
  unfold ltD at h
  split at h
  · cases h; exact .inl ⟨_, _, hx.int, hy.int, g.now e rfl⟩
  · cases h; exact .inr ⟨_, _, hx.str, hy.str, g.now e rfl⟩
  · cases h
theorem p_le {K : PySem.W.Frag} : Prim2 K T (rI0 fun i j => .bl (decide (i ≤ j))) leD := fun S H x y dx dy d Q e hx hy h g => by
  unfold leD at h
  split at h
  · cases h; exact ⟨_, _, hx.int, hy.int, g.now e rfl⟩
  · cases h
theorem p_gt {K : PySem.W.Frag} : Prim2 K T (rI0 fun i j => .bl (decide (j < i))) gtD := fun S H x y dx dy d Q e hx hy h g => by
  unfold gtD at h
  split at h
  · cases h; exact ⟨_, _, hx.int, hy.int, g.now e rfl⟩
  · cases h
theorem p_ge {K : PySem.W.Frag} : Prim2 K T (rI0 fun i j => .bl (decide (j ≤ i))) geD := fun S H x y dx dy d Q e hx hy h g => by
  unfold geD at h
  split at h
  · cases h; exact ⟨_, _, hx.int, hy.int, g.now e rfl⟩
  · cases h
def rEq2 (K : PySem.W.Frag) : R2 := fun x y H Q => rEq x y H Q ∨ rEqD K x y H Q
def rNe2 (K : PySem.W.Frag) : R2 := fun x y H Q => rNe x y H Q ∨ rNeD K x y H Q
theorem op_eqA (hu : X.A.units + 64 < cLine) : OpR X (compareOp .Eq) (rEq2 X.K) := op_eq.or (op_eqD hu)
theorem op_neA (hu : X.A.units + 64 < cLine) : OpR X (compareOp .NotEq) (rNe2 X.K) := op_ne.or (op_neD hu)
theorem same_kind {K : PySem.W.Frag} {S H : Hp} {x y : V} {dx dy : D} (hx : RpH K T S H dx x) (hy : RpH K T S H dy y) (h : sameKind dx dy = true) : scal x y = true ∧ decide (x = y) = deq dx dy := by
  cases dx <;> cases dy <;> first | cases h | skip
  · rw [hx.non, hy.non]; exact ⟨rfl, rfl⟩
  · rw [hx.bl, hy.bl]; exact ⟨rfl, dec_bl⟩
  · rw [hx.int, hy.int]; exact ⟨rfl, dec_int⟩
  · rw [hx.str, hy.str]; exact ⟨rfl, dec_str⟩
theorem p_eq {K : PySem.W.Frag} : Prim2 K T (rEq2 K) eqD := fun S H x y dx dy d Q e hx hy h g => by
  unfold eqD at h
  by_cases hk : sameKind dx dy = true
  · rw [hk, Bool.true_or, if_pos rfl] at h
    cases h
    obtain ⟨h1, h2⟩ := same_kind hx hy hk
    exact .inl ⟨h1, by rw [h2]; exact g.now e rfl⟩
  · rw [Bool.not_eq_true] at hk
    rw [hk, Bool.false_or] at h
    split at h
    · rename_i ho
      cases h
      unfold okQ at ho
      simp only [Bool.and_eq_true] at ho
      refine .inr ⟨_, _, hx.dp e ho.1.1, hy.dp e ho.2.1, ho.1.2, ho.2.2, ?_⟩
      rw [deq_eqv]; exact g.now e rfl
    · cases h
theorem p_ne {K : PySem.W.Frag} : Prim2 K T (rNe2 K) neD := fun S H x y dx dy d Q e hx hy h g => by
  unfold neD at h
  by_cases hk : sameKind dx dy = true
  · rw [hk, Bool.true_or, if_pos rfl] at h
    cases h
    obtain ⟨h1, h2⟩ := same_kind hx hy hk
    exact .inl ⟨h1, by rw [h2]; exact g.now e rfl⟩
  · rw [Bool.not_eq_true] at hk
    rw [hk, Bool.false_or] at h
    split at h
    · rename_i ho
      cases h
      unfold okQ at ho
      simp only [Bool.and_eq_true] at ho
      refine .inr ⟨_, _, hx.dp e ho.1.1, hy.dp e ho.2.1, ho.1.2, ho.2.2, ?_⟩
      rw [deq_eqv]; exact g.now e rfl
    · cases h
def isNon : D → Bool
  | .non => true
  | _ => false
theorem isNon_of {K : PySem.W.Frag} {S H : Hp} {x : V} {d : D} (h : RpH K T S H d x) : decide (x = .non) = isNon d := by
  rcases h with h | ⟨a, vs, xs, rfl, rfl, _⟩
  · cases d with
    | non => rw [show x = _ from h]; rfl
    | bl b => rw [show x = _ from h]; rfl
    | int b => rw [show x = _ from h]; rfl
    | str b => rw [show x = _ from h]; rfl
    | lst b => obtain ⟨a, vs, rfl, _⟩ := h; rfl
    | tup b => obtain ⟨a, vs, rfl, _⟩ := h; rfl
    | obj _ _ => obtain ⟨a, vs, rfl, _⟩ := h; rfl
    | scr _ => obtain ⟨a, rfl, _⟩ := h; rfl
  · rfl
def isD : D → D → Option D
  | x, .non => some (.bl (isNon x))
  | _, _ => none
def isntD : D → D → Option D
  | x, .non => some (.bl (!isNon x))
  | _, _ => none
theorem p_is {K : PySem.W.Frag} : Prim2 K T (fun x y H Q => y = .non ∧ Q (.bl (decide (x = .non))) H) isD := fun S H x y dx dy d Q e hx hy h g => by
  cases dy <;> first | cases h | skip
  refine ⟨hy.non, ?_⟩
  rw [isNon_of hx]; exact g.now e rfl
theorem p_isnt {K : PySem.W.Frag} : Prim2 K T (fun x y H Q => y = .non ∧ Q (.bl (!decide (x = .non))) H) isntD := fun S H x y dx dy d Q e hx hy h g => by
  cases dy <;> first | cases h | skip
  refine ⟨hy.non, ?_⟩
  rw [isNon_of hx]; exact g.now e rfl
/-- in: flat things in a list, a tuple; a text in a text -/
def inStr (x y : Str) : Bool := !(Builtin.Str.occurrences y x 0 y.length 1).isEmpty
def anyEq (x : D) (ys : List D) : Bool := ys.any fun y => deq y x
def inD : D → D → Option D
  | .str x, .str y => some (.bl (inStr x y))
  | x, .lst ys => if x.flat && ys.all D.flat then some (.bl (anyEq x ys)) else none
  | x, .tup ys => if x.flat && ys.all D.flat then some (.bl (anyEq x ys)) else none
  | _, _ => none
def ninD : D → D → Option D
  | .str x, .str y => some (.bl (!inStr x y))
  | x, .lst ys => if x.flat && ys.all D.flat then some (.bl (!anyEq x ys)) else none
  | x, .tup ys => if x.flat && ys.all D.flat then some (.bl (!anyEq x ys)) else none
  | _, _ => none
theorem flat_V {K : PySem.W.Frag} {S : Hp} {d : D} {v : V} (h : d.flat = true) (r : Rp K T S d v) : flatV v = true := by
  cases d <;> first | cases h | skip
  · rw [show v = _ from r]; rfl
  · rw [show v = _ from r]; rfl
  · rw [show v = _ from r]; rfl
  · rw [show v = _ from r]; rfl
theorem eqV_of {K : PySem.W.Frag} {S : Hp} {d e : D} {v w : V} (hd : d.flat = true) (he : e.flat = true) (r : Rp K T S d v) (q : Rp K T S e w) : eqV v w = deq d e := by
  cases d <;> first | cases hd | skip
  all_goals (cases e <;> first | cases he | skip)
  all_goals (rw [show v = _ from r, show w = _ from q]; simp [eqV, deq])
theorem Rps.flatV : ∀ {K : PySem.W.Frag} {S : Hp} {ds : List D} {vs : List V}, ds.all D.flat = true → Rps K T S ds vs → vs.all L2.flatV = true
  | _, _, [], _, _, r => by rw [show _ = [] from r]; rfl
  | _, _, d :: ds, _, h, ⟨v, r, e1, h1, hs⟩ => by
    rw [List.all_cons, Bool.and_eq_true] at h
    rw [e1, List.all_cons, flat_V h.1 h1, Rps.flatV h.2 hs]; rfl
theorem Rps.inV {K : PySem.W.Frag} {S : Hp} {x : D} {u : V} (hx : x.flat = true) (rx : Rp K T S x u) : ∀ {ds : List D} {vs : List V}, ds.all D.flat = true → Rps K T S ds vs → L2.inV u vs = anyEq x ds
  | [], _, _, r => by rw [show _ = [] from r]; rfl
  | d :: ds, _, h, ⟨v, r, e1, h1, hs⟩ => by
    rw [List.all_cons, Bool.and_eq_true] at h
    rw [e1]
    unfold L2.inV anyEq
    rw [List.any_cons, List.any_cons, eqV_of h.1 hx h1 rx]
    have := Rps.inV hx rx h.2 hs
    unfold L2.inV anyEq at this
    rw [this]
def rIn2 (K : PySem.W.Frag) (neg : Bool) : R2 := fun x y H Q => (∃ i j, x = .str i ∧ y = .str j ∧ Q (.bl (if neg then !inStr i j else inStr i j)) H) ∨ rIn K neg x y H Q
theorem op_inA : OpR X (compareOp .In) (rIn2 X.K false) := op_in_str.or op_in_seq
theorem op_ninA : OpR X (compareOp .NotIn) (rIn2 X.K true) := op_notin_str.or op_notIn_seq
theorem RpH.flat {K : PySem.W.Frag} {S H : Hp} {d : D} {v : V} (h : RpH K T S H d v) (hf : d.flat = true) : Rp K T S d v := by
  rcases h with h | ⟨_, _, _, _, rfl, _⟩
  · exact h
  · cases hf
theorem p_in {K : PySem.W.Frag} : Prim2 K T (rIn2 K false) inD := fun S H x y dx dy d Q e hx hy h g => by
  unfold inD at h
  split at h
  · cases h; exact .inl ⟨_, _, hx.str, hy.str, g.now e rfl⟩
  · split at h
    · rename_i hb
      cases h
      rw [Bool.and_eq_true] at hb
      obtain ⟨a, vs, rfl, q, r⟩ := hy.lst e
      refine .inr ⟨a, vs, rfl, .inl (SqL.of q), flat_V hb.1 (hx.flat hb.1), Rps.flatV hb.2 r, ?_⟩
      rw [Rps.inV hb.1 (hx.flat hb.1) hb.2 r]; exact g.now e rfl
    · cases h
  · split at h
    · rename_i hb
      cases h
      rw [Bool.and_eq_true] at hb
      obtain ⟨a, vs, rfl, q, r⟩ := hy.tup e
      refine .inr ⟨a, vs, rfl, .inr q, flat_V hb.1 (hx.flat hb.1), Rps.flatV hb.2 r, ?_⟩
      rw [Rps.inV hb.1 (hx.flat hb.1) hb.2 r]; exact g.now e rfl
    · cases h
  · cases h
theorem p_nin {K : PySem.W.Frag} : Prim2 K T (rIn2 K true) ninD := fun S H x y dx dy d Q e hx hy h g => by
  unfold ninD at h
  split at h
  · cases h; exact .inl ⟨_, _, hx.str, hy.str, g.now e rfl⟩
  · split at h
    · rename_i hb
      cases h
      rw [Bool.and_eq_true] at hb
      obtain ⟨a, vs, rfl, q, r⟩ := hy.lst e
      refine .inr ⟨a, vs, rfl, .inl (SqL.of q), flat_V hb.1 (hx.flat hb.1), Rps.flatV hb.2 r, ?_⟩
      rw [Rps.inV hb.1 (hx.flat hb.1) hb.2 r]; exact g.now e rfl
    · cases h
  · split at h
    · rename_i hb
      cases h
      rw [Bool.and_eq_true] at hb
      obtain ⟨a, vs, rfl, q, r⟩ := hy.tup e
      refine .inr ⟨a, vs, rfl, .inr q, flat_V hb.1 (hx.flat hb.1), Rps.flatV hb.2 r, ?_⟩
      rw [Rps.inV hb.1 (hx.flat hb.1) hb.2 r]; exact g.now e rfl
    · cases h
  · cases h
end
end Lq
namespace Lq
open PySem PySem.Spec PyProof.Rows L2
section
variable {K : PySem.W.Frag} {T : Tb} {S H : Hp}
theorem RpHs.one {d : D} {us : List V} (h : RpHs K T S H [d] us) : ∃ u, us = [u] ∧ RpH K T S H d u := by
  obtain ⟨u, r, e1, h1, h2⟩ := h
  rw [show r = [] from h2] at e1
  exact ⟨u, e1, h1⟩
theorem RpHs.two {d e : D} {us : List V} (h : RpHs K T S H [d, e] us) : ∃ u v, us = [u, v] ∧ RpH K T S H d u ∧ RpH K T S H e v := by
  obtain ⟨u, r, e1, h1, h2⟩ := h
  obtain ⟨v, e2, h3⟩ := h2.one
  rw [e2] at e1
  exact ⟨u, v, e1, h1, h3⟩
theorem RpH.scr {ns : List Int} {v : V} (h : RpH K T S H (.scr ns) v) (e : Same S H) : ∃ a, v = .ref a ∧ SqL K H a (ns.map V.int) := by
  rcases h with ⟨a, e1, q⟩ | ⟨_, _, _, _, e2, _⟩
  · exact ⟨a, e1, e.seq q⟩
  · cases e2
/-- len -/
def lenD : List D → Option D
  | [.lst xs] => some (.int xs.length)
  | [.tup xs] => some (.int xs.length)
  | [.scr ns] => some (.int ns.length)
  | [.str s] => if fits s.length then some (.int s.length) else none
  | _ => none
theorem p_len : PrimN K T (fun xs H Q => ∃ x n, xs = [x] ∧ LenV K x H n ∧ Q (.int n) H) lenD := fun S H xs ds d Q e h hg g => by
  unfold lenD at hg
  split at hg
  · cases hg
    obtain ⟨u, rfl, hu⟩ := h.one
    obtain ⟨a, vs, rfl, q, r⟩ := hu.lst e
    exact ⟨_, _, rfl, .inl ⟨vs, SqL.of q, r.len.symm⟩, g.now e rfl⟩
  · cases hg
    obtain ⟨u, rfl, hu⟩ := h.one
    obtain ⟨a, vs, rfl, q, r⟩ := hu.tup e
    exact ⟨_, _, rfl, .inr ⟨vs, q, r.len.symm⟩, g.now e rfl⟩
  · cases hg
    obtain ⟨u, rfl, hu⟩ := h.one
    obtain ⟨a, rfl, q⟩ := hu.scr e
    exact ⟨_, _, rfl, .inl ⟨_, q, (List.length_map ..).symm⟩, g.now e rfl⟩
  · split at hg
    · rename_i hf
      cases hg
      obtain ⟨u, rfl, hu⟩ := h.one
      rw [hu.str]
      exact ⟨_, _, rfl, ⟨fits_line hf, rfl⟩, g.now e rfl⟩
    · cases hg
  · cases hg
/-- subscripts -/
def atD : D → D → Option D
  | .lst xs, .int i => atI xs i
  | .tup xs, .int i => atI xs i
  | .scr ns, .int i => (atI ns i).map D.int
  | .str s, .int i => if fits s.length then (atI s.cps.toList i).map fun c => D.str ⟨#[c]⟩ else none
  | _, _ => none
theorem atI_rps {ds : List D} {vs : List V} {i : Int} {d : D} (r : Rps K T S ds vs) (h : atI ds i = some d) : ∃ v, atI vs i = some v ∧ Rp K T S d v := by
  unfold atI at h ⊢
  rw [r.len]
  cases q : ixN ds.length i with
  | none => rw [q] at h; cases h
  | some j =>
    rw [q] at h
    obtain ⟨v, h1, h2⟩ := r.get (show ds[j]? = some d from h)
    exact ⟨v, h1, h2⟩
theorem p_ix : Prim2 K T (rIx K) atD := fun S H x y dx dy d Q e hx hy h g => by
  unfold atD at h
  split at h
  · obtain ⟨a, vs, rfl, q, r⟩ := hx.lst e
    obtain ⟨v, hv, rv⟩ := atI_rps r h
    exact .inl ⟨a, vs, _, v, rfl, hy.int, SqL.of q, hv, g.now e rv⟩
  · obtain ⟨a, vs, rfl, q, r⟩ := hx.tup e
    obtain ⟨v, hv, rv⟩ := atI_rps r h
    exact .inr (.inl ⟨a, vs, _, v, rfl, hy.int, q, hv, g.now e rv⟩)
  · rename_i ns i
    obtain ⟨a, rfl, q⟩ := hx.scr e
    cases z : atI ns i with
    | none => rw [z] at h; cases h
    | some k =>
      rw [z] at h
      cases h
      have hz : atI (ns.map V.int) i = some (.int k) := by
        unfold atI at z ⊢
        rw [List.length_map]
        cases y : ixN ns.length i with
        | none => rw [y] at z; cases z
        | some j =>
          rw [y] at z
          have z' : ns[j]? = some k := z
          show (ns.map V.int)[j]? = _
          rw [List.getElem?_map, z']; rfl
      exact .inl ⟨a, _, _, _, rfl, hy.int, q, hz, g.now e rfl⟩
  · split at h
    · rename_i s i hf
      cases q : atI s.cps.toList i with
      | none => rw [q] at h; cases h
      | some c =>
        rw [q] at h
        cases h
        exact .inr (.inr ⟨s, i, c, hx.str, hy.int, fits_line hf, q, g.now e rfl⟩)
    · cases h
  · cases h
/-- slices -/
def cutL {α : Type} (xs : List α) (lo hi : Option Int) : List α := (xs.drop (HT.sIx xs.length 0 lo)).take (HT.sIx xs.length xs.length hi - HT.sIx xs.length 0 lo)
def cutD (x : D) (lo hi : Option Int) : Option D := match x with
  | .lst xs => some (.lst (cutL xs lo hi))
  | .tup xs => some (.tup (cutL xs lo hi))
  | .scr ns => some (.lst (cutL (ns.map D.int) lo hi))
  | .str s => if fits s.length then some (.str (cutS s lo hi)) else none
  | _ => none
theorem Rps.cut {ds : List D} {vs : List V} (r : Rps K T S ds vs) (lo hi : Option Int) : Rps K T S (cutL ds lo hi) (cutV vs lo hi) := by
  unfold cutL cutV
  rw [r.len]
  exact (r.drop _).take _
theorem cutL_whole {α : Type} {xs : List α} {lo hi : Option Int} (h : HT.sIx xs.length 0 lo = 0 ∧ HT.sIx xs.length xs.length hi = xs.length) : cutL xs lo hi = xs := by
  unfold cutL
  rw [h.1, h.2, List.drop_zero, Nat.sub_zero, List.take_length]
def rSl3 (K : PySem.W.Frag) : V → Option Int → Option Int → Hp → VK → Prop := fun x lo hi H Q => rSlL K x lo hi H Q ∨ rSlA K x lo hi H Q ∨ rSlS x lo hi H Q
theorem sl_any {X : Cx} : L2.SlR X (rSl3 X.K) := sl_list.or (sl_tupA.or sl_str)
theorem p_sl {x : V} {dx d : D} {lo hi : Option Int} {Q : VK} (e : Same S H) (hx : RpH K T S H dx x) (h : cutD dx lo hi = some d) (g : Gv K T S H d Q) : rSl3 K x lo hi H Q := by
  unfold cutD at h
  split at h
  · cases h
    obtain ⟨a, vs, rfl, q, r⟩ := hx.lst e
    exact .inl ⟨a, vs, rfl, SqL.of q, fun p hp => g.newL e (r.cut lo hi) p hp⟩
  · rename_i xs
    cases h
    obtain ⟨a, vs, rfl, q, r⟩ := hx.tup e
    refine .inr (.inl ⟨a, vs, rfl, q, fun hw => ?_, fun _ p hp => g.newT e (r.cut lo hi) p hp⟩)
    rw [r.len] at hw
    rw [cutL_whole hw] at g
    rcases hx with hx | ⟨_, _, _, _, ee, _⟩
    · exact g.now e hx
    · cases ee
  · cases h
    obtain ⟨a, rfl, q⟩ := hx.scr e
    exact .inl ⟨a, _, rfl, q, fun p hp => g.newL e ((Rps.ints _).cut lo hi) p hp⟩
  · split at h
    · rename_i hf
      cases h
      exact .inr (.inr ⟨_, hx.str, fits_line hf, g.now e rfl⟩)
    · cases h
  · cases h
/-- the parts of a slice -/
def rOp (K : PySem.W.Frag) (T : Tb) (W : WX) (f : Rho → R (Option Int)) : TO := rG K T W (fun _ _ (b c : Option Int) => b = c) f
def noPart : Rho → R (Option Int) := fun ρ => .ok none ρ
def aPart (fa : Rho → R VD) : Rho → R (Option Int) := fun ρ => (fa ρ).bind fun v ρ1 => match v with | .d (.int i) => .ok (some i) ρ1 | _ => .bad
end
def XO (X : Cx) (T : Tb) (W : WX) (e : Option Expr) (f : Rho → R (Option Int)) : Prop := PO X e (rOp X.K T W f)
section
variable {X : Cx} {T : Tb} {W : WX} {a b c e o : Expr} {es : List Expr} {fa fb fc fo : Rho → R VD} {fs : Rho → R (List VD)} {ft fu : Rho → R Bool} {pos : Pos}
theorem xo_none : XO X T W none noPart := ⟨fun pins s σ H Q I h => po_none.run pins s σ H Q I (by
  obtain ⟨β, G, S, ρ, o, p⟩ := h
  exact p S H none (Same.refl _) o rfl)⟩
theorem xo_some (he : XE X T W e fa) : XO X T W (some e) (aPart fa) := ⟨fun pins s σ H Q I h => (po_some he).run pins s σ H Q I (by
  obtain ⟨β, G, S, ρ, o, p⟩ := h
  refine ⟨β, G, S, ρ, o, Post.thn (Rl := RpV X.K T σ) p fun S1 H1 ρ1 v u e1 o1 h1 p1 => ?_⟩
  split at p1
  · exact ⟨_, h1, p1 S1 H1 _ (Same.refl _) o1 rfl⟩
  · exact p1.elim)⟩
def slE (fa : Rho → R VD) (fl fh : Rho → R (Option Int)) : Rho → R VD := fun ρ => (fa ρ).bind fun v ρ1 => (fl ρ1).bind fun l ρ2 => (fh ρ2).bind fun h ρ3 => match res v ρ3 with
  | some x => (match cutD x l h with | some d => .ok (.d d) ρ3 | none => .bad)
  | none => .bad
theorem xe_sl {lo hi : Option Expr} {fl fh : Rho → R (Option Int)} {p2 : Pos} (he : XE X T W e fa) (hl : XO X T W lo fl) (hh : XO X T W hi fh) : XE X T W (.Subscript e (.Slice lo hi none p2) pos) (slE fa fl fh) :=
  (pe_slice sl_any he hl hh).impQ fun σ H Q h => by
    obtain ⟨β, G, S, ρ, o, p⟩ := h
    refine ⟨β, G, S, ρ, o, Post.thn (Rl := RpV X.K T σ) p fun S1 H1 ρ1 v u e1 o1 h1 p1 => ?_⟩
    refine ⟨β, G, S1, ρ1, o1, Post.thn (Rl := fun _ (b c : Option Int) => b = c) p1 fun S2 H2 ρ2 l l' e2 o2 h2 p2 => ?_⟩
    refine ⟨β, G, S2, ρ2, o2, Post.thn (Rl := fun _ (b c : Option Int) => b = c) p2 fun S3 H3 ρ3 k k' e3 o3 h3 p3 => ?_⟩
    subst h2; subst h3
    split at p3
    · rename_i x q
      split at p3
      · rename_i d q2
        exact p_sl o3.sh (o3.res (h1.mono (e2.trans e3)) q) q2 (p3.gv o3)
      · exact p3.elim
    · exact p3.elim

/-! ### a < b <= c -/
def chainE (g g' : D → D → Option D) (fa fb fc : Rho → R VD) : Rho → R VD := fun ρ => (fa ρ).bind fun v ρ1 => (fb ρ1).bind fun w ρ2 => match v, w with
  | .d x, .d y => (match g x y with
    | some (.bl true) => (fc ρ2).bind fun z ρ3 => (match z with | .d u => (match g' y u with | some d => .ok (.d d) ρ3 | none => .bad) | _ => .bad)
    | some (.bl false) => .ok (.d (.bl false)) ρ2
    | _ => .bad)
  | _, _ => .bad
theorem tChain_of {K : PySem.W.Frag} {g g' : D → D → Option D} {r r' : R2} {σ : L2.St} {H : Hp} {Q : VK} (hp : Prim2 K T r g) (hp' : Prim2 K T r' g') (h : rE K T W (chainE g g' fa fb fc) σ H Q) : tChain r r' (rE K T W fa) (rE K T W fb) (rE K T W fc) σ H Q := by
  obtain ⟨β, G, S, ρ, o, p⟩ := h
  refine ⟨β, G, S, ρ, o, Post.thn (Rl := RpV K T σ) p fun S1 H1 ρ1 v u e1 o1 h1 p1 => ?_⟩
  refine ⟨β, G, S1, ρ1, o1, Post.thn (Rl := RpV K T σ) p1 fun S2 H2 ρ2 w z e2 o2 h2 p2 => ?_⟩
  split at p2
  case h_2 => exact p2.elim
  case h_1 x y =>
  have hx : RpH K T S2 H2 x u := .inl (Rp.mono e2 _ _ h1)
  have hy : RpH K T S2 H2 y z := .inl h2
  split at p2
  · rename_i q
    refine hp S2 H2 u z x y _ _ o2.sh hx hy q fun S3 H3 t e3 r3 => ⟨true, r3, iteT ⟨β, G, S3, ρ2, o2.ext e3, ?_⟩⟩
    refine Post.thn (Rl := RpV K T σ) (Post.mono p2 e3.s) fun S4 H4 ρ4 w' t' e4 o4 h4 p4 => ?_
    split at p4
    · split at p4
      · rename_i q4
        exact hp' S4 H4 z t' y _ _ Q o4.sh (.inl (Rp.mono (e3.s.trans e4) _ _ h2)) (.inl h4) q4 (p4.gv o4)
      · exact p4.elim
    · exact p4.elim
  · rename_i q
    exact hp S2 H2 u z x y _ _ o2.sh hx hy q fun S3 H3 t e3 r3 => ⟨false, r3, iteF (p2 S3 H3 (.bl false) e3.s (o2.ext e3) rfl)⟩
  · exact p2.elim
theorem xe_chain {op op' : CmpOp} {r r' : R2} {g g' : D → D → Option D} (ho : OpR X (compareOp op) r) (hp : Prim2 X.K T r g) (ho' : OpR X (compareOp op') r') (hp' : Prim2 X.K T r' g') (ha : XE X T W a fa) (hb : XE X T W b fb) (hc : XE X T W c fc)
    (hm : lastMarks [op, op'] [b, c] = false := by with_unfolding_all rfl) : XE X T W (.Compare a [op, op'] [b, c] pos) (chainE g g' fa fb fc) := (pe_chain ho ho' ha hb hc hm).impQ fun σ H Q h => tChain_of hp hp' h
theorem xt_chain {op op' : CmpOp} {r r' : R2} {g g' : D → D → Option D} (ho : OpR X (compareOp op) r) (hp : Prim2 X.K T r g) (ho' : OpR X (compareOp op') r') (hp' : Prim2 X.K T r' g') (ha : XE X T W a fa) (hb : XE X T W b fb) (hc : XE X T W c fc)
    (hm : lastMarks [op, op'] [b, c] = false := by with_unfolding_all rfl) : XT X T W (.Compare a [op, op'] [b, c] pos) (valT (chainE g g' fa fb fc)) :=
  (pt_chain ho ho' ha hb hc hm).impQ fun σ H Q h => valT_of (t := tChain r r' (rE X.K T W fa) (rE X.K T W fb) (rE X.K T W fc)) (fun _ q => tChain_of hp hp' q) h

/-! ### methods of texts -/
def strM (g : Str → List D → Option D) (fo : Rho → R VD) (fs : Rho → R (List VD)) : Rho → R VD := fun ρ => (fo ρ).bind fun v ρ1 => match v with
  | .d (.str s) => (fs ρ1).bind fun vs ρ2 => (match resAll vs ρ2 with | some xs => (match g s xs with | some d => .ok (.d d) ρ2 | none => .bad) | none => .bad)
  | _ => .bad
def PrimS (K : PySem.W.Frag) (T : Tb) (r : V → List V → Hp → VK → Prop) (g : Str → List D → Option D) : Prop := ∀ S H s xs ds d Q, Same S H → RpHs K T S H ds xs → g s ds = some d → Gv K T S H d Q → r (.str s) xs H Q
theorem xe_strM {name : Str} {id : String} {r : V → List V → Hp → VK → Prop} {g : Str → List D → Option D} {apos cpos : Pos} (slot : Slot "str" name id) (hty : typeOf (.builtin id) = pure (.type "method_descriptor")) (hm : MtR X id r) (hp : PrimS X.K T r g) (ho : XE X T W o fo) (ha : XA X T W (e :: es) fs)
    (hbase : attributeBase o name X.env (eval o X.env) = eval o X.env := by rfl)
    (hfew : ((backTo cpos (starEach (e :: es) X.env)).all (fun x => !x.1) && (backToKw cpos (keywordEach [] X.env)).all (fun x => x.1.isSome) && decide ((e :: es).length + ([] : List Keyword).length + (if ([] : List Keyword).isEmpty then 0 else 1) < 30)) = true := by rfl)
    (hline : (apos.endLine == cpos.line) = true := by rfl) (hs : starEach (e :: es) X.env = (false, eval e X.env) :: starEach es X.env := by rfl) (hplain : (backTo cpos (starEach es X.env)).any (·.1) = false := by rfl) :
    XE X T W (.Call (.Attribute o name apos) (e :: es) [] cpos) (strM g fo fs) :=
  (pe_bm PySem.F.plainAttrs_str slot hty hm ho ha hbase hfew hline hs hplain).impQ fun σ H Q h => by
    obtain ⟨β, G, S, ρ, o, p⟩ := h
    refine ⟨β, G, S, ρ, o, Post.thn (Rl := RpV X.K T σ) p fun S1 H1 ρ1 v u e1 o1 h1 p1 => ?_⟩
    split at p1
    · rename_i s
      rw [show u = .str s from h1]
      refine ⟨rfl, β, G, S1, ρ1, o1, Post.thn (Rl := RpVs X.K T σ) p1 fun S2 H2 ρ2 vs us e2 o2 h2 p2 => ?_⟩
      split at p2
      · rename_i xs q
        split at p2
        · rename_i d q2
          exact hp S2 H2 s us xs d Q o2.sh (o2.resAll h2 q) q2 (p2.gv o2)
        · exact p2.elim
      · exact p2.elim
    · exact p1.elim
def splitD (s : Str) : List D → Option D
  | [.str b] => if !(b.length == 0) && fits s.length then some (.lst ((Txt.split s b).map D.str)) else none
  | _ => none
theorem fits_two {n : Nat} (h : fits n = true) : n + 2 ≤ sizeLine := by
  have := of_decide_eq_true h
  rw [sizeLine_eq]; omega
theorem p_split {K : PySem.W.Frag} : PrimS K T (fun x xs H Q => ∃ a b, x = .str a ∧ xs = [.str b] ∧ (b.length == 0) = false ∧ a.length + 2 ≤ sizeLine ∧ rNewStrs (Txt.split a b) H Q) splitD := fun S H s xs ds d Q e h hg g => by
  unfold splitD at hg
  split at hg
  · split at hg
    · rename_i hb
      cases hg
      rw [Bool.and_eq_true, Bool.not_eq_true'] at hb
      obtain ⟨u, rfl, hu⟩ := h.one
      rw [hu.str]
      exact ⟨s, _, rfl, rfl, hb.1, fits_two hb.2, fun p hp => g.newL e (Rps.strs _) p hp⟩
    · cases hg
  · cases hg
def joinD (s : Str) : List D → Option D
  | [x] => (match x.items? with
    | some xs => (match allOf D.str? xs with
      | some ys => if decide ((ys.map (·.length)).sum + ys.length * s.length ≤ 16777216) then some (.str (Txt.join s ys)) else none
      | none => none)
    | none => none)
  | _ => none
theorem p_join {K : PySem.W.Frag} : PrimS K T (fun x xs H Q => ∃ a p, ∃ ys : List Str, x = .str a ∧ xs = [.ref p] ∧ (SqL K H p (ys.map V.str) ∨ SqT K H p (ys.map V.str)) ∧
    (ys.map (·.length)).sum + ys.length * a.length ≤ 16777216 ∧ Q (.str (Txt.join a ys)) H) joinD := fun S H s xs ds d Q e h hg g => by
  unfold joinD at hg
  split at hg
  case h_2 => cases hg
  case h_1 x =>
  obtain ⟨u, rfl, hu⟩ := h.one
  split at hg
  case h_2 => cases hg
  case h_1 ys q =>
  split at hg
  case h_2 => cases hg
  case h_1 zs q2 =>
  split at hg
  case isFalse => cases hg
  case isTrue hf =>
  cases hg
  have ez := allOf_strs q2
  subst ez
  cases x with
  | lst xs =>
    cases q
    obtain ⟨a, vs, rfl, q', r⟩ := hu.lst e
    have := r.strsV
    subst this
    exact ⟨s, a, zs, rfl, rfl, .inl (SqL.of q'), of_decide_eq_true hf, g.now e rfl⟩
  | tup xs =>
    cases q
    obtain ⟨a, vs, rfl, q', r⟩ := hu.tup e
    have := r.strsV
    subst this
    exact ⟨s, a, zs, rfl, rfl, .inr q', of_decide_eq_true hf, g.now e rfl⟩
  | _ => cases q

/-! ### built-ins -/
def tupleD : List D → Option D
  | [.lst xs] => some (.tup xs)
  | [.tup xs] => some (.tup xs)
  | _ => none
theorem p_tuple {K : PySem.W.Frag} : PrimN K T (fun xs H Q => ∃ p ys, xs = [.ref p] ∧ ((SqL K H p ys ∧ ∀ l, H l = none → Q (.ref l) (upd H l (.tup ys))) ∨ (SqT K H p ys ∧ Q (.ref p) H))) tupleD := fun S H xs ds d Q e h hg g => by
  unfold tupleD at hg
  split at hg
  · cases hg
    obtain ⟨u, rfl, hu⟩ := h.one
    obtain ⟨a, vs, rfl, q, r⟩ := hu.lst e
    exact ⟨a, vs, rfl, .inl ⟨SqL.of q, fun l hl => g.newT e r l hl⟩⟩
  · cases hg
    obtain ⟨u, rfl, hu⟩ := h.one
    obtain ⟨a, vs, rfl, q, r⟩ := hu.tup e
    rcases hu with hu | ⟨_, _, _, _, ee, _⟩
    · exact ⟨a, vs, rfl, .inr ⟨q, g.now e hu⟩⟩
    · cases ee
  · cases hg
def listF : List D → Option (List D)
  | [.lst xs] => some xs
  | [.tup xs] => some xs
  | _ => none
theorem p_list {K : PySem.W.Frag} : PrimNF K T (fun xs H Q => ∃ p ys, xs = [.ref p] ∧ (SqL K H p ys ∨ SqT K H p ys) ∧ ∀ l, H l = none → Q (.ref l) (upd H l (.lst ys))) listF := fun S H xs ds d Q e h hg g => by
  unfold listF at hg
  split at hg
  · cases hg
    obtain ⟨u, rfl, hu⟩ := h.one
    obtain ⟨a, vs, rfl, q, r⟩ := hu.lst e
    exact ⟨a, vs, rfl, .inl (SqL.of q), fun l hl => g.new e r l hl⟩
  · cases hg
    obtain ⟨u, rfl, hu⟩ := h.one
    obtain ⟨a, vs, rfl, q, r⟩ := hu.tup e
    exact ⟨a, vs, rfl, .inr q, fun l hl => g.new e r l hl⟩
  · cases hg
def allD : List D → Option D
  | [.lst xs] => (match allOf D.bl? xs with | some bs => some (.bl (bs.all id)) | none => none)
  | _ => none
def anyD : List D → Option D
  | [.lst xs] => (match allOf D.bl? xs with | some bs => some (.bl (bs.any id)) | none => none)
  | _ => none
def sumD : List D → Option D
  | [.lst xs] => (match allOf D.int? xs with | some bs => some (.int bs.sum) | none => none)
  | _ => none
theorem p_all {K : PySem.W.Frag} : PrimN K T (rAll K) allD := fun S H xs ds d Q e h hg g => by
  unfold allD at hg
  split at hg
  case h_2 => cases hg
  case h_1 ys =>
  split at hg
  case h_2 => cases hg
  case h_1 bs q =>
  cases hg
  have ez := allOf_bls q
  subst ez
  obtain ⟨u, rfl, hu⟩ := h.one
  obtain ⟨a, vs, rfl, q', r⟩ := hu.lst e
  have := r.blsV
  subst this
  exact ⟨a, bs, rfl, SqL.of q', g.now e rfl⟩
theorem p_any {K : PySem.W.Frag} : PrimN K T (rAny K) anyD := fun S H xs ds d Q e h hg g => by
  unfold anyD at hg
  split at hg
  case h_2 => cases hg
  case h_1 ys =>
  split at hg
  case h_2 => cases hg
  case h_1 bs q =>
  cases hg
  have ez := allOf_bls q
  subst ez
  obtain ⟨u, rfl, hu⟩ := h.one
  obtain ⟨a, vs, rfl, q', r⟩ := hu.lst e
  have := r.blsV
  subst this
  exact ⟨a, bs, rfl, SqL.of q', g.now e rfl⟩
theorem p_sum {K : PySem.W.Frag} : PrimN K T (rSum K) sumD := fun S H xs ds d Q e h hg g => by
  unfold sumD at hg
  split at hg
  case h_2 => cases hg
  case h_1 ys =>
  split at hg
  case h_2 => cases hg
  case h_1 bs q =>
  cases hg
  have ez := allOf_ints q
  subst ez
  obtain ⟨u, rfl, hu⟩ := h.one
  obtain ⟨a, vs, rfl, q', r⟩ := hu.lst e
  have := r.intsV
  subst this
  exact ⟨a, bs, rfl, SqL.of q', g.now e rfl⟩
def absD : List D → Option D
  | [.int i] => some (.int (if i < 0 then -i else i))
  | _ => none
theorem p_abs {K : PySem.W.Frag} : PrimN K T (fun xs H Q => ∃ i, xs = [.int i] ∧ Q (.int (if i < 0 then -i else i)) H) absD := fun S H xs ds d Q e h hg g => by
  unfold absD at hg
  split at hg
  · cases hg
    obtain ⟨u, rfl, hu⟩ := h.one
    rw [hu.int]
    exact ⟨_, rfl, g.now e rfl⟩
  · cases hg
def min2D : List D → Option D
  | [.int i, .int j] => some (.int (if j < i then j else i))
  | _ => none
def max2D : List D → Option D
  | [.int i, .int j] => some (.int (if j > i then j else i))
  | _ => none
theorem p_min2 {K : PySem.W.Frag} : PrimN K T (fun xs H Q => ∃ i j, xs = [.int i, .int j] ∧ Q (.int (if j < i then j else i)) H) min2D := fun S H xs ds d Q e h hg g => by
  unfold min2D at hg
  split at hg
  · cases hg
    obtain ⟨u, v, rfl, hu, hv⟩ := h.two
    rw [hu.int, hv.int]
    exact ⟨_, _, rfl, g.now e rfl⟩
  · cases hg
theorem p_max2 {K : PySem.W.Frag} : PrimN K T (fun xs H Q => ∃ i j, xs = [.int i, .int j] ∧ Q (.int (if j > i then j else i)) H) max2D := fun S H xs ds d Q e h hg g => by
  unfold max2D at hg
  split at hg
  · cases hg
    obtain ⟨u, v, rfl, hu, hv⟩ := h.two
    rw [hu.int, hv.int]
    exact ⟨_, _, rfl, g.now e rfl⟩
  · cases hg
/-- int of an int, a bool, a text -/
def intD : List D → Option D
  | [.int i] => some (.int i)
  | [.bl b] => some (.int (if b then 1 else 0))
  | [.str s] => if decide (s.length ≤ 640) then (PySem.intText? s).map D.int else none
  | _ => none
def rInt3 : List V → Hp → VK → Prop := fun xs H Q => ((∃ i, xs = [.int i] ∧ Q (.int i) H) ∨ ∃ k, xs = [.bl k] ∧ Q (.int (if k then 1 else 0)) H) ∨ ∃ a n, xs = [.str a] ∧ PySem.intText? a = some n ∧ a.length ≤ 640 ∧ Q (.int n) H
theorem call_intA : CallR X (.type "int") rInt3 := call_int1.or call_int_str
theorem p_int {K : PySem.W.Frag} : PrimN K T rInt3 intD := fun S H xs ds d Q e h hg g => by
  unfold intD at hg
  split at hg
  · cases hg
    obtain ⟨u, rfl, hu⟩ := h.one
    rw [hu.int]
    exact .inl (.inl ⟨_, rfl, g.now e rfl⟩)
  · cases hg
    obtain ⟨u, rfl, hu⟩ := h.one
    rw [hu.bl]
    exact .inl (.inr ⟨_, rfl, g.now e rfl⟩)
  · split at hg
    · rename_i s hf
      cases q : PySem.intText? s with
      | none => rw [q] at hg; cases hg
      | some n =>
        rw [q] at hg
        cases hg
        obtain ⟨u, rfl, hu⟩ := h.one
        rw [hu.str]
        exact .inr ⟨s, n, rfl, q, of_decide_eq_true hf, g.now e rfl⟩
    · cases hg
  · cases hg
def strD : List D → Option D
  | [.int i] => if decide (i.natAbs.log2 < 1920) then some (.str (toString i)) else none
  | _ => none
theorem p_str {K : PySem.W.Frag} : PrimN K T (fun xs H Q => ∃ i : Int, xs = [.int i] ∧ i.natAbs.log2 < 1920 ∧ Q (.str (toString i)) H) strD := fun S H xs ds d Q e h hg g => by
  unfold strD at hg
  split at hg
  · split at hg
    · rename_i hf
      cases hg
      obtain ⟨u, rfl, hu⟩ := h.one
      rw [hu.int]
      exact ⟨_, rfl, of_decide_eq_true hf, g.now e rfl⟩
    · cases hg
  · cases hg
end
end Lq
namespace Lq
open PySem PySem.Spec PyProof.Rows L2
/-! ### several values at once, new lists among them -/
inductive MV where
  | d (x : D)
  | f (ds : List D)
def Hold (K : PySem.W.Frag) (T : Tb) (S : Hp) : Hp → Hp → List MV → List V → Prop
  | G, G', [], us => us = [] ∧ G' = G
  | G, G', .d x :: ms, us => ∃ u r, us = u :: r ∧ Rp K T S x u ∧ Hold K T S G G' ms r
  | G, G', .f ds :: ms, us => ∃ p vs r, us = .ref p :: r ∧ G p = none ∧ Rps K T S ds vs ∧ Hold K T S (upd G p (.lst vs)) G' ms r
def PostM (K : PySem.W.Frag) (T : Tb) (W : WX) (β : Option Addr) (G S : Hp) (σ : L2.St) (r : R (List MV)) (Q : List V → Hp → Prop) : Prop := match r with
  | .ok ms ρ' => ∀ S' H' us G', Same S S' → Ok K T β G' S' σ ρ' H' → Hold K T S' G G' ms us → Q us H'
  | .err x ρ' => ∀ S' H' c d, Same S S' → Ok K T β G S' σ ρ' H' → XR K T S' x c d → W c d σ H'
  | .bad => False
def rM (K : PySem.W.Frag) (T : Tb) (W : WX) (f : Rho → R (List MV)) : TA := fun σ H Q => ∃ β G S ρ, Ok K T β G S σ ρ H ∧ PostM K T W β G S σ (f ρ) Q
def XM (X : Cx) (T : Tb) (W : WX) (es : List Expr) (f : Rho → R (List MV)) : Prop := PA X es (rM X.K T W f)
section
variable {K : PySem.W.Frag} {T : Tb} {W : WX} {β : Option Addr} {G S S' H : Hp} {σ : L2.St} {ρ : Rho}
theorem Ok.guardHere (o : Ok K T β G S σ ρ H) {p : Addr} {u : HO} (f : Fre β G S σ ρ p) (h : H p = some u) : Ok K T β (upd G p u) S σ ρ H where
  sh := o.sh
  gh := fun b v q => by
    by_cases hb : b = p
    · subst hb; rw [upd_same] at q; rw [← q]; exact h
    · rw [upd_ne hb] at q; exact o.gh b v q
  gs := fun b v q => by
    by_cases hb : b = p
    · subst hb; exact f.s
    · rw [upd_ne hb] at q; exact o.gs b v q
  gb := fun b q => by
    have hb : b ≠ p := fun z => f.b (by rw [q, z])
    rw [upd_ne hb]; exact o.gb b q
  bx := o.bx
  len := o.len
  cel := fun i c q => by
    have h1 := o.cel i c q
    cases c with
    | no => trivial
    | d x => exact h1
    | m xs =>
      obtain ⟨a, vs, e1, e2, e3, e4, e5, r⟩ := h1
      have hb : a ≠ p := fun z => f.sl i xs q (by rw [e1, z])
      exact ⟨a, vs, e1, e2, e3, by rw [upd_ne hb]; exact e4, e5, r⟩
    | b ns => exact h1
  dis := o.dis
def nilM : Rho → R (List MV) := fun ρ => .ok [] ρ
def consMd (fa : Rho → R VD) (fm : Rho → R (List MV)) : Rho → R (List MV) := fun ρ => (fa ρ).bind fun v ρ1 => match v with | .d x => (fm ρ1).bind fun ms ρ2 => .ok (.d x :: ms) ρ2 | .sl _ => .bad
def consMf (f : Rho → R (List D)) (fm : Rho → R (List MV)) : Rho → R (List MV) := fun ρ => (f ρ).bind fun ds ρ1 => (fm ρ1).bind fun ms ρ2 => .ok (.f ds :: ms) ρ2
theorem xm_nil {X : Cx} : XM X T W [] nilM := pa_nil.impQ fun σ H Q h => by
  obtain ⟨β, G, S, ρ, o, p⟩ := h
  exact p S H [] G (Same.refl _) o ⟨rfl, rfl⟩
theorem PostM.mono {r : R (List MV)} {Q : List V → Hp → Prop} (h : PostM K T W β G S σ r Q) (e : Same S S') : PostM K T W β G S' σ r Q := by
  cases r with
  | ok a ρ' => exact fun S2 H2 us G' e2 o => h S2 H2 us G' (e.trans e2) o
  | err x ρ' => exact fun S2 H2 c d e2 o => h S2 H2 c d (e.trans e2) o
  | bad => exact h
/-- what a wish about errors says with less guarded -/
theorem xm_d {X : Cx} {e : Expr} {es : List Expr} {fa : Rho → R VD} {fm : Rho → R (List MV)} (ha : XE X T W e fa) (hs : XM X T W es fm) (hst : starEach (e :: es) X.env = (false, eval e X.env) :: starEach es X.env := by rfl) : XM X T W (e :: es) (consMd fa fm) := (pa_cons ha hs hst).impQ fun σ H Q h => by
  obtain ⟨β, G, S, ρ, o, p⟩ := h
  refine ⟨β, G, S, ρ, o, ?_⟩
  unfold consMd at p
  revert p
  cases fa ρ with
  | bad => exact fun p => p
  | err x ρ1 => exact fun p => p
  | ok v ρ1 =>
    intro p S1 H1 u e1 o1 h1
    dsimp only [R.bind] at p
    cases v with
    | sl i => exact p.elim
    | d x =>
      refine ⟨β, G, S1, ρ1, o1, ?_⟩
      dsimp only at p
      have p' := PostM.mono p e1
      revert p'
      cases fm ρ1 with
      | bad => exact fun p => p
      | err y ρ2 => exact fun p => p
      | ok ms ρ2 => exact fun p S2 H2 us G' e2 o2 h2 => p S2 H2 _ G' e2 o2 ⟨u, us, rfl, Rp.mono e2 _ _ h1, h2⟩
/-- the errors of the rest must not come while a new list is held -/
def noErr (r : R (List MV)) : R (List MV) := match r with | .err _ _ => .bad | r => r
def consMf' (f : Rho → R (List D)) (fm : Rho → R (List MV)) : Rho → R (List MV) := fun ρ => (f ρ).bind fun ds ρ1 => (noErr (fm ρ1)).bind fun ms ρ2 => .ok (.f ds :: ms) ρ2
theorem xm_f {X : Cx} {e : Expr} {es : List Expr} {f : Rho → R (List D)} {fm : Rho → R (List MV)} (ha : XF X T W e f) (hs : XM X T W es fm) (hst : starEach (e :: es) X.env = (false, eval e X.env) :: starEach es X.env := by rfl) : XM X T W (e :: es) (consMf' f fm) := (pa_cons ha hs hst).impQ fun σ H Q h => by
  obtain ⟨β, G, S, ρ, o, p⟩ := h
  refine ⟨β, G, S, ρ, o, ?_⟩
  unfold consMf' at p
  revert p
  cases f ρ with
  | bad => exact fun p => p
  | err x ρ1 => exact fun p => p
  | ok ds ρ1 =>
    intro p S1 H1 a vs e1 o1 fr hv h1
    dsimp only [R.bind] at p
    refine ⟨β, upd G a (.lst vs), S1, ρ1, o1.guardHere fr hv, ?_⟩
    have p' := PostM.mono p e1
    revert p'
    cases fm ρ1 with
    | bad => exact fun p => p
    | err y ρ2 => exact fun p => p.elim
    | ok ms ρ2 => exact fun p S2 H2 us G' e2 o2 h2 => p S2 H2 _ G' e2 o2 ⟨a, vs, us, rfl, fr.g, Rps.mono e2 _ _ h1, h2⟩
/-- the names take them -/
def setsS (σ : L2.St) : List Nat → List V → L2.St
  | i :: is, u :: us => setsS (σ.set i (some u)) is us
  | _, _ => σ
def setsR (ρ : Rho) : List Nat → List MV → Rho
  | i :: is, .d x :: ms => setsR (ρ.set i (.d x)) is ms
  | i :: is, .f ds :: ms => setsR (ρ.set i (.m ds)) is ms
  | _, _ => ρ
theorem setsS_out {i : Nat} {v : Option V} : ∀ {is : List Nat} {us : List V} {σ : L2.St}, i ∉ is → setsS (σ.set i v) is us = (setsS σ is us).set i v
  | [], _, _, _ => by unfold setsS; rfl
  | j :: is, [], _, _ => by unfold setsS; rfl
  | j :: is, u :: us, σ, h => by
    simp only [List.mem_cons, not_or] at h
    unfold setsS
    rw [List.set_comm _ _ h.1]
    exact setsS_out h.2
theorem setsR_out {i : Nat} {c : Cell} : ∀ {is : List Nat} {ms : List MV} {ρ : Rho}, i ∉ is → setsR (ρ.set i c) is ms = (setsR ρ is ms).set i c
  | [], _, _, _ => by unfold setsR; rfl
  | j :: is, [], _, _ => by unfold setsR; rfl
  | j :: is, .d x :: ms, ρ, h => by
    simp only [List.mem_cons, not_or] at h
    unfold setsR
    rw [List.set_comm _ _ h.1]
    exact setsR_out h.2
  | j :: is, .f x :: ms, ρ, h => by
    simp only [List.mem_cons, not_or] at h
    unfold setsR
    rw [List.set_comm _ _ h.1]
    exact setsR_out h.2
theorem Ok.sets : ∀ {is : List Nat} {ms : List MV} {us : List V} {G G' : Hp}, is.Nodup → is.length = ms.length → Ok K T β G' S σ ρ H → Hold K T S G G' ms us → Ok K T β G S (setsS σ is us) (setsR ρ is ms) H
  | [], [], us, G, G', _, _, o, h => by
    obtain ⟨rfl, rfl⟩ := h
    unfold setsS setsR; exact o
  | i :: is, .d x :: ms, us, G, G', hn, hl, o, ⟨u, r, e1, rx, hs⟩ => by
    have hn' := List.nodup_cons.mp hn
    subst e1
    unfold setsS setsR
    rw [setsS_out hn'.1, setsR_out hn'.1]
    exact (Ok.sets hn'.2 (by simpa using hl) o hs).setD rx
  | i :: is, .f ds :: ms, us, G, G', hn, hl, o, ⟨p, vs, r, e1, hg, rx, hs⟩ => by
    have hn' := List.nodup_cons.mp hn
    subst e1
    unfold setsS setsR
    rw [setsS_out hn'.1, setsR_out hn'.1]
    obtain ⟨o1, fr, hv⟩ := (Ok.sets hn'.2 (by simpa using hl) o hs).unguard hg
    exact o1.setM fr hv rx
  | [], _ :: _, _, _, _, _, hl, _, _ => by cases hl
  | _ :: _, [], _, _, _, _, hl, _, _ => by cases hl
theorem Hold.len : ∀ {ms : List MV} {us : List V} {G G' : Hp}, Hold K T S G G' ms us → us.length = ms.length
  | [], _, _, _, ⟨h, _⟩ => by rw [h]; rfl
  | .d x :: ms, _, _, _, ⟨u, r, e1, _, hs⟩ => by rw [e1, List.length_cons, List.length_cons, Hold.len hs]
  | .f x :: ms, _, _, _, ⟨p, vs, r, e1, _, _, hs⟩ => by rw [e1, List.length_cons, List.length_cons, Hold.len hs]
def parS (is : List Nat) (fm : Rho → R (List MV)) : Rho → O := fun ρ => (fm ρ).thnO fun ms ρ1 => if is.length = ms.length then .nx (setsR ρ1 is ms) else .bad
theorem par_of {is : List Nat} {fm : Rho → R (List MV)} {De : Ends} {Q' : List V → Hp → Prop} (hn : is.Nodup) (h : rS K T W (parS is fm) De σ H)
    (hq : ∀ us H1, us.length = is.length → (∀ H2, Same H1 H2 → (∃ q u, H1 q = none ∧ H2 = upd H1 q u) ∨ H2 = H1 → De.nx (setsS σ is us) H2) → Q' us H1) : rM K T W fm σ H Q' := by
  obtain ⟨β, G, S, ρ, o, p⟩ := h
  refine ⟨β, G, S, ρ, o, ?_⟩
  unfold parS at p
  revert p
  cases fm ρ with
  | bad => exact fun p => p
  | err x ρ1 => exact fun p S1 H1 c d e o q => p S1 σ H1 c d e o q
  | ok ms ρ1 =>
    intro p S1 H1 us G' e1 o1 h1
    dsimp only [R.thnO] at p
    by_cases hl : is.length = ms.length
    · rw [if_pos hl] at p
      have o2 := Ok.sets hn hl o1 h1
      refine hq us H1 (by rw [h1.len, hl]) fun H2 e2 hh => ?_
      rcases hh with ⟨q, u, hq1, rfl⟩ | rfl
      · exact p S1 _ _ e1 (o2.ext (Ext.skip o2.sh hq1))
      · exact p S1 _ _ e1 o2
    · rw [if_neg hl] at p; exact p.elim
end
section
variable {X : Cx} {T : Tb} {W : WX} {pos px py pz pt pt2 : Pos} {kt k2 : Nat} {a b c : Expr} {fm : Rho → R (List MV)}
theorem us2 {us : List V} (h : us.length = 2) : ∃ v w, us = [v, w] := by
  cases us with
  | nil => cases h
  | cons v r => cases r with
    | nil => cases h
    | cons w r => cases r with
      | nil => exact ⟨v, w, rfl⟩
      | cons _ _ => simp at h
theorem us3 {us : List V} (h : us.length = 3) : ∃ v w z, us = [v, w, z] := by
  cases us with
  | nil => cases h
  | cons v r =>
    obtain ⟨w, z, rfl⟩ := us2 (us := r) (by simpa using h)
    exact ⟨v, w, z, rfl⟩
/-- a, b = x, y (plain locals) -/
theorem xs_par2 (i j : Nat) {x y : Str} (hc : X.calm = true) (hN : X.N.Nodup) (ha : XM X T W [a, b] fm) (hw : swappedStores [.Tuple [.Name x px, .Name y py] kt pt] (.Tuple [a, b] k2 pt2) X.env = pure (some [x, y]) := by rfl) (hij : i ≠ j := by decide) (hi : X.N[i]? = some x := by rfl) (hj : X.N[j]? = some y := by rfl)
    (hx : X.env.scope.names.lookup x = some .local := by rfl) (hy : X.env.scope.names.lookup y = some .local := by rfl)
    (hs : swapsWithSole [.Tuple [.Name x px, .Name y py] kt pt] (.Tuple [a, b] k2 pt2) pos.line X.env = pure false := by rfl) :
    XS X T W (.Assign [.Tuple [.Name x px, .Name y py] kt pt] (.Tuple [a, b] k2 pt2) pos) (parS [i, j] fm) :=
  (ps_par hc hN hi hj hij hx hy ha hw hs).impQ fun De σ H q => par_of (is := [i, j]) (by simp [hij]) q fun us H1 hl k => by
    obtain ⟨v, w, rfl⟩ := us2 hl
    exact ⟨v, w, rfl, k H1 (Same.refl _) (.inr rfl)⟩
theorem xs_par3 (i j l : Nat) {x y z : Str} (hc : X.calm = true) (hN : X.N.Nodup) (ha : XM X T W [a, b, c] fm) (hw : swappedStores [.Tuple [.Name x px, .Name y py, .Name z pz] kt pt] (.Tuple [a, b, c] k2 pt2) X.env = pure (some [x, y, z]) := by rfl) (hij : i ≠ j := by decide) (hil : i ≠ l := by decide) (hjl : j ≠ l := by decide)
    (hi : X.N[i]? = some x := by rfl) (hj : X.N[j]? = some y := by rfl) (hl : X.N[l]? = some z := by rfl)
    (hx : X.env.scope.names.lookup x = some .local := by rfl) (hy : X.env.scope.names.lookup y = some .local := by rfl) (hz : X.env.scope.names.lookup z = some .local := by rfl)
    (hs : swapsWithSole [.Tuple [.Name x px, .Name y py, .Name z pz] kt pt] (.Tuple [a, b, c] k2 pt2) pos.line X.env = pure false := by rfl) :
    XS X T W (.Assign [.Tuple [.Name x px, .Name y py, .Name z pz] kt pt] (.Tuple [a, b, c] k2 pt2) pos) (parS [i, j, l] fm) :=
  (ps_par3 hc hN hi hj hl hij hil hjl hx hy hz ha hw hs).impQ fun De σ H q => par_of (is := [i, j, l]) (by simp [hij, hil, hjl]) q fun us H1 hl k => by
    obtain ⟨v, w, t, rfl⟩ := us3 hl
    exact ⟨v, w, t, rfl, k H1 (Same.refl _) (.inr rfl)⟩
/-- targets that are names, told by slots -/
def gNames : List Nat → TGs := fun is vs σ H Q => vs.length = is.length ∧ Q (setsS σ is vs) H
theorem pgs_names : ∀ {is : List Nat} {es : List Expr} {t : TGs}, PGs X es t → (∀ vs σ H Q, gNames is vs σ H Q → t vs σ H Q) → PGs X es (gNames is) := fun h i => h.impQ i
theorem gn_nil (vs : List V) (σ : L2.St) (H : Hp) (Q : L2.St → Hp → Prop) (h : gNames [] vs σ H Q) : gNil vs σ H Q := by
  obtain ⟨h1, h2⟩ := h
  have : vs = [] := List.length_eq_zero_iff.mp h1
  subst this
  exact ⟨rfl, h2⟩
theorem gn_cons {i : Nat} {is : List Nat} {u : TGs} (hu : ∀ vs σ H Q, gNames is vs σ H Q → u vs σ H Q) (vs : List V) (σ : L2.St) (H : Hp) (Q : L2.St → Hp → Prop) (h : gNames (i :: is) vs σ H Q) : gCons (gName i) u vs σ H Q := by
  obtain ⟨h1, h2⟩ := h
  cases vs with
  | nil => cases h1
  | cons v r => exact ⟨v, r, rfl, hu r _ H Q ⟨by simpa using h1, h2⟩⟩
/-- (names) = (values): the tuple is made and taken apart -/
theorem xs_parN {is : List Nat} {ts es : List Expr} {n : Nat} (hc : X.calm = true) (hn : is.Nodup) (hl : is.length = n) (hf : fits n = true) (ha : XM X T W es fm) (hg : PGs X ts (gNames is)) (hln : (assignEach ts X.env).length = n := by rfl) (hst : (assignEach ts X.env).findIdx? (·.1) = none := by rfl)
    (hs : swapsWithSole [.Tuple ts kt pt] (.Tuple es k2 pt2) pos.line X.env = pure false := by rfl) (hw : swappedStores [.Tuple ts kt pt] (.Tuple es k2 pt2) X.env = pure none := by rfl)
    (h1 : (assignEach [.Tuple ts kt pt] X.env).map (·.2) = [assign (.Tuple ts kt pt) X.env] := by rfl) :
    XS X T W (.Assign [.Tuple ts kt pt] (.Tuple es k2 pt2) pos) (parS is fm) :=
  (ps_asg (pe_tup ha) (pg_tup hc hg hln hst) hs hw h1).impQ fun De σ H q => par_of hn q fun us H1 hlu k => by
    refine ⟨by rw [hlu, hl]; exact fits_line hf, fun p hp => ⟨p, us, rfl, SqT.of upd_same, by rw [hlu, hl], hlu, k _ (same_new hp) (.inl ⟨p, _, hp, rfl⟩)⟩⟩
end
end Lq
namespace Lq
open PySem PySem.Spec PyProof.Rows L2
/-! ### defs that draw from the box: their first argument -/
structure ExtB (b : Addr) (ns' : List Int) (S H S' H' : Hp) : Prop where
  s : Same S S'
  h : ∀ c o, c ≠ b → H c = some o → H' c = some o
  bx : H' b = some (.lst (ns'.map V.int))
  sh : Same S' H'
  fr : ∀ c o, H c = some o → S' c = S c
def spB (K : PySem.W.Frag) (T : Tb) (n : Nat) (F : List Int → List D → Option (D × List Int)) : Sp := fun vs H Q _ => ∃ S b ns ws ds, vs = .ref b :: ws ∧ Same S H ∧ S b = none ∧ H b = some (.lst (ns.map V.int)) ∧ Rps K T S ds ws ∧ ds.length = n ∧
  match F ns ds with
  | some (d, ns') => ∀ S' H' v, ExtB b ns' S H S' H' → Rp K T S' d v → Q v H'
  | none => False
def boxAt (ρ : Rho) (d : D) : Option (D × List Int) := match ρ[0]? with | some (Cell.b ns) => some (d, ns) | _ => none
def runB (a n : Nat) (f : Rho → O) (ns : List Int) (ds : List D) : Option (D × List Int) := if ds.length = a then (match f (.b ns :: startR n ds) with
  | .nx ρ => boxAt ρ .non
  | .rt v ρ => (match v with
    | .d x => boxAt ρ x
    | .sl i => (match ρ[i]? with | some (.m xs) => boxAt ρ (.lst xs) | _ => none))
  | .rf ds ρ => boxAt ρ (.lst ds)
  | _ => none) else none
theorem runB_len {a n : Nat} {f : Rho → O} (ns : List Int) (ds : List D) (h : runB a n f ns ds ≠ none) : ds.length = a := by
  unfold runB at h
  split at h
  · assumption
  · exact (h rfl).elim
def besidesB (b : Addr) (S H : Hp) : Hp := fun c => if c = b then none else besides S H c
section
variable {K : PySem.W.Frag} {T : Tb} {S S' H : Hp}
theorem bb_ne {b c : Addr} (h : c ≠ b) : besidesB b S H c = besides S H c := by unfold besidesB; rw [if_neg h]
theorem bb_self {b : Addr} : besidesB b S H b = none := by unfold besidesB; rw [if_pos rfl]
theorem bb_of {b c : Addr} {o : HO} (e : besidesB b S H c = some o) : c ≠ b ∧ besides S H c = some o := by
  by_cases h : c = b
  · subst h; rw [bb_self] at e; cases e
  · rw [bb_ne h] at e; exact ⟨h, e⟩
theorem boxAt_of {β : Option Addr} {G : Hp} {σ : L2.St} {ρ : Rho} {d d' : D} {ns' : List Int} (o : Ok K T β G S σ ρ H) (h : boxAt ρ d = some (d', ns')) : d' = d ∧ ∃ b, β = some b ∧ H b = some (.lst (ns'.map V.int)) := by
  unfold boxAt at h
  split at h
  · rename_i ns q
    cases h
    obtain ⟨a, _, e2, e3⟩ := o.cel 0 _ q
    exact ⟨rfl, a, e2, e3⟩
  · cases h
end
section
variable {P : Program} {w : World} {K : PySem.W.Frag} {mg : Str → Option Value} {base : Heap} {T : Tb}
theorem fn_box {x qual : Str} {st : Stmt} {f : Addr} {fd : FuncData} {N ps : List Str} {k n m : Nat} {g : Rho → O} (F : Fun K x qual st f fd) (Sc : FnScope N ps (defScope st)) (hlen : ps.length ≤ N.length) (hps : ps.length = n + 1) (hN : N.length = m + 1)
    (hbody : ∀ (cdv : Value) (A : Around) (outer : List PySem.Env) (s : Shared) (H : Hp) (E : XK), Room k (A.deeper (envOfC qual (defScope st) s.heap.objs.size f cdv)) →
      PassesOwn (model P w) (cxOf (L2.CX P w) P w K mg base N qual (defScope st) f cdv A outer s H E).A (cxOf (L2.CX P w) P w K mg base N qual (defScope st) f cdv A outer s H E).env (cxOf (L2.CX P w) P w K mg base N qual (defScope st) f cdv A outer s H E).xe →
      XB (cxOf (L2.CX P w) P w K mg base N qual (defScope st) f cdv A outer s H E) T W0 (defBody st) g) :
    FnOk P w K mg base (L2.CX P w) (k + 1) f fd ps (spB K T n (runB n m g)) := by
  refine F.okX Sc (fun vs H Q E h => ?_) (fun cdv A outer s H vs Q E hr h => ?_)
  · obtain ⟨S, b, ns, ws, ds, rfl, e, _, _, r, hl, _⟩ := h
    rw [List.length_cons, r.len, hl, hps]
  · obtain ⟨S, b, ns, ws, ds, rfl, e, hb, hbx, r, hl, p⟩ := h
    refine ⟨_, hbody cdv A outer s H E hr (passes_of rfl), some b, besidesB b S H, S, .b ns :: startR m ds, ?_, ?_⟩
    · refine ⟨e, fun c o q => besides_same c o (bb_of q).2, fun c o q => besides_apart (bb_of q).2, fun c q => ?_, fun c q => ?_, ?_, fun i c q => ?_, fun i j xs ys q => ?_⟩
      · cases q; exact ⟨bb_self, hb⟩
      · cases q; exact ⟨ns, hbx⟩
      · unfold L2.start startR
        simp only [List.length_append, List.length_map, List.length_cons, List.length_replicate]
        rw [r.len, hN]
        omega
      · cases i with
        | zero =>
          simp at q; subst q
          exact ⟨b, by simp [L2.start], rfl, hbx⟩
        | succ i =>
          have := start_cell (n := N.length - (ws.length + 1)) (k := m - ds.length) (i := i) (c := c) (H := H) (β := some b) (G := besidesB b S H) r (by simpa [startR] using q)
          have this2 : CellOk K T (some b) (besidesB b S H) S H (L2.start N (V.ref b :: ws))[i + 1]? c := by simpa [L2.start] using this
          exact this2
      · cases i with
        | zero => simp at q
        | succ i => exact (start_noM (i := i) (by simpa [startR] using q)).elim
    · have fin : ∀ {S' σ' ρ' H' d d' ns'}, Same S S' → Ok K T (some b) (besidesB b S H) S' σ' ρ' H' → boxAt ρ' d = some (d', ns') → d' = d ∧ ExtB b ns' S H S' H' := fun {S' σ' ρ' H' d d' ns'} e1 o hba => by
        obtain ⟨e2, b', e3, e4⟩ := boxAt_of o hba
        cases e3
        refine ⟨e2, e1, fun c u hc q => ?_, e4, o.sh, fun c u q => ?_⟩
        · cases z : S c with
          | none => exact o.gh c u (by rw [bb_ne hc]; exact besides_of q z)
          | some u' => have := e c u' z; rw [q] at this; cases this; exact o.sh c _ (e1 c _ z)
        · cases z : S c with
          | some u' => exact e1 c u' z
          | none =>
            by_cases hc : c = b
            · subst hc; exact (o.gb c rfl).2
            · exact o.gs c u (by rw [bb_ne hc]; exact besides_of q z)
      unfold runB at p
      rw [if_pos hl] at p
      revert p
      cases g (.b ns :: startR m ds) with
      | nx ρ' =>
        intro p S' σ' H' e1 o
        dsimp only at p
        cases q : boxAt ρ' .non with
        | none => rw [q] at p; exact p.elim
        | some dn =>
          rw [q] at p
          obtain ⟨e2, x2⟩ := fin e1 o q
          exact p S' H' .non x2 (by rw [e2]; rfl)
      | rt v ρ' =>
        intro p S' σ' H' u e1 o hv
        cases v with
        | d x =>
          dsimp only at p
          cases q : boxAt ρ' x with
          | none => rw [q] at p; exact p.elim
          | some dn =>
            rw [q] at p
            obtain ⟨e2, x2⟩ := fin e1 o q
            exact p S' H' u x2 (by rw [e2]; exact hv)
        | sl i =>
          dsimp only at p
          cases qi : ρ'[i]? with
          | none => rw [qi] at p; exact p.elim
          | some c =>
            rw [qi] at p
            cases c with
            | m xs =>
              dsimp only at p
              obtain ⟨a, vs', e2, e3, e4, r', o2⟩ := o.frzSlot qi
              have : σ'[i]? = some (some u) := hv
              rw [e2] at this; cases this
              cases q : boxAt ρ' (.lst xs) with
              | none => rw [q] at p; exact p.elim
              | some dn =>
                rw [q] at p
                have q' : boxAt (ρ'.set i (.d (.lst xs))) (.lst xs) = some dn := by
                  unfold boxAt at q ⊢
                  have hi : i ≠ 0 := fun z => by subst z; rw [qi] at q; cases q
                  rw [List.getElem?_set_ne hi]; exact q
                obtain ⟨e5, x2⟩ := fin (e1.trans (same_new e4)) o2 q'
                exact p _ H' (.ref a) x2 (by rw [e5]; exact ⟨a, vs', rfl, upd_same, Rps.mono (same_new e4) _ _ r'⟩)
            | _ => exact p.elim
      | rf ds' ρ' =>
        intro p S' σ' H' a vs' e1 o fr hv r'
        dsimp only at p
        cases q : boxAt ρ' (.lst ds') with
        | none => rw [q] at p; exact p.elim
        | some dn =>
          rw [q] at p
          obtain ⟨e5, x2⟩ := fin (e1.trans (same_new fr.s)) (o.freeze fr hv) q
          exact p _ H' (.ref a) x2 (by rw [e5]; exact ⟨a, vs', rfl, upd_same, Rps.mono (same_new fr.s) _ _ r'⟩)
      | err x ρ' => exact fun p => p.elim
      | bk ρ' => exact fun p => p.elim
      | ct ρ' => exact fun p => p.elim
      | bad => exact fun p => p.elim
end
def isB : Cell → Bool
  | .b _ => true
  | _ => false
def onlyB (i : Nat) (ρ : Rho) : Bool := (ρ.set i .no).all fun c => !isB c
def callBE (F : List Int → List D → Option (D × List Int)) (fs : Rho → R (List VD)) : Rho → R VD := fun ρ => (fs ρ).bind fun vs ρ1 => match vs with
  | .sl i :: ws => (match ρ1[i]?, datAll ws with
    | some (.b ns), some ds => if onlyB i ρ1 then (match F ns ds with | some (d, ns') => .ok (.d d) (ρ1.set i (.b ns')) | none => .bad) else .bad
    | _, _ => .bad)
  | _ => .bad
section
variable {K : PySem.W.Frag} {T : Tb} {W : WX} {β : Option Addr} {G S S' H : Hp} {σ : L2.St} {ρ : Rho}
theorem Ok.extB {b : Addr} {ns' : List Int} {H' : Hp} {i : Nat} {ns : List Int} (o : Ok K T (some b) G S σ ρ H) (e : ExtB b ns' S H S' H') (hi : ρ[i]? = some (.b ns)) (hob : onlyB i ρ = true) : Ok K T (some b) G S' σ (ρ.set i (.b ns')) H' where
  sh := e.sh
  gh := fun c u q => e.h c u (fun z => by subst z; rw [(o.gb c rfl).1] at q; cases q) (o.gh c u q)
  gs := fun c u q => (e.fr c u (o.gh c u q)).trans (o.gs c u q)
  gb := fun c q => by
    cases q
    obtain ⟨ms, hb⟩ := o.bx b rfl
    exact ⟨(o.gb b rfl).1, (e.fr b _ hb).trans (o.gb b rfl).2⟩
  bx := fun c q => by cases q; exact ⟨ns', e.bx⟩
  len := by rw [List.length_set]; exact o.len
  cel := fun j c q => by
    by_cases hj : j = i
    · subst hj
      have := get_set_eq q
      subst this
      obtain ⟨a, e1, e2, e3⟩ := o.cel j _ hi
      cases e2
      exact ⟨b, e1, rfl, e.bx⟩
    · rw [List.getElem?_set_ne (Ne.symm hj)] at q
      have h1 := o.cel j c q
      cases c with
      | no => trivial
      | d x => obtain ⟨u, e1, r⟩ := h1; exact ⟨u, e1, Rp.mono e.s _ _ r⟩
      | m xs =>
        obtain ⟨a, vs, e1, e2, e3, e4, e5, r⟩ := h1
        exact ⟨a, vs, e1, e.h _ _ (fun z => e5 (by rw [z])) e2, (e.fr _ _ e2).trans e3, e4, e5, Rps.mono e.s _ _ r⟩
      | b ms =>
        exfalso
        unfold onlyB at hob
        have hm : Cell.b ms ∈ ρ.set i .no := List.mem_of_getElem? (i := j) (by rw [List.getElem?_set_ne (Ne.symm hj)]; exact q)
        have := List.all_eq_true.mp hob _ hm
        cases this
  dis := fun j l xs ys q1 q2 e1 => by
    have h1 : j ≠ i := fun z => by subst z; cases get_set_eq q1
    have h2 : l ≠ i := fun z => by subst z; cases get_set_eq q2
    rw [List.getElem?_set_ne (Ne.symm h1)] at q1
    rw [List.getElem?_set_ne (Ne.symm h2)] at q2
    exact o.dis j l xs ys q1 q2 e1
theorem callB_of {F : List Int → List D → Option (D × List Int)} {n : Nat} {fs : Rho → R (List VD)} {Q : VK} (hn : ∀ ns ds, F ns ds ≠ none → ds.length = n) (h : rE K T W (callBE F fs) σ H Q) : tCallS (spB K T n F) (WE W) (rA K T W fs) σ H Q := by
  obtain ⟨β, G, S, ρ, o, p⟩ := h
  refine ⟨β, G, S, ρ, o, Post.thn (Rl := RpVs K T σ) p fun S1 H1 ρ1 vs us e1 o1 h1 p1 => ?_⟩
  split at p1
  case h_2 => exact p1.elim
  case h_1 i ws =>
  split at p1
  case h_2 => exact p1.elim
  case h_1 ns ds q1 q2 =>
  split at p1
  case isFalse => exact p1.elim
  case isTrue hob =>
  obtain ⟨u, r, e2, hu, hr⟩ := h1
  obtain ⟨a, f1, f2, f3⟩ := o1.cel i _ q1
  have : σ[i]? = some (some u) := hu
  rw [f1] at this; cases this
  subst f2
  refine ⟨S1, a, ns, r, ds, e2, o1.sh, (o1.gb a rfl).2, f3, datAll_rps q2 hr, hn ns ds (fun z => by rw [z] at p1; exact p1), ?_⟩
  revert p1
  cases F ns ds with
  | none => exact fun p1 => p1
  | some dn => exact fun p1 S2 H2 v x2 rv => p1 S2 H2 v x2.s (o1.extB x2 q1 hob) rv
end
section
variable {X : Cx} {T : Tb} {W : WX} {e : Expr} {es : List Expr} {fs : Rho → R (List VD)} {pos : Pos}
theorem xe_callBx {F : List Int → List D → Option (D × List Int)} {k : Nat} {f : Addr} {fd : FuncData} {ps : List Str} {n : Nat} {x : Str} {p : Pos} (Fk : FnOk X.prog X.w X.K X.mg X.base (L2.CX X.prog X.w) k f fd ps (spB X.K T n F)) (hr : Room k X.A) (hm : X.mg x = some (.ref f)) (hk : PySem.W.keepIn X.K (.ref f) = true) (hb : Binds X.K fd ps [])
    (tk : Takes X W) (hn : ∀ ns ds, F ns ds ≠ none → ds.length = n) (ha : XA X T W (e :: es) fs) (hg : L2.Gl X x := by rfl) (hdb : (x == ("__debug__" : Str)) = false := by decide) (he : starEach (e :: es) X.env = (false, eval e X.env) :: starEach es X.env := by rfl) (hpl : (backTo pos (starEach es X.env)).any (·.1) = false := by rfl) :
    XE X T W (.Call (.Name x p) (e :: es) [] pos) (callBE F fs) :=
  (pe_callS Fk hr hg hm hk hb (fun σ => passAt tk σ) ha hdb he hpl).impQ fun _ _ _ h => callB_of hn h
end

/-! ### a list of a slot's own is changed -/
section
variable {K : PySem.W.Frag} {T : Tb} {W : WX} {β : Option Addr} {G S S' H : Hp} {σ : L2.St} {ρ : Rho}
theorem Ok.updM {i : Nat} {xs ys : List D} {a : Addr} {ws : List V} (o : Ok K T β G S σ ρ H) (hi : ρ[i]? = some (.m xs)) (ha : σ[i]? = some (some (.ref a))) (r : Rps K T S ys ws) : Ok K T β G S σ (ρ.set i (.m ys)) (upd H a (.lst ws)) := by
  obtain ⟨a', vs, e1, e2, e3, e4, e5, r0⟩ := o.cel i _ hi
  rw [ha] at e1; cases e1
  refine ⟨fun b u q => ?_, fun b u q => ?_, o.gs, o.gb, fun b q => ?_, by rw [List.length_set]; exact o.len, fun j c q => ?_, fun j l us vs' q1 q2 e => ?_⟩
  · rw [upd_ne (fun z => by subst z; rw [e3] at q; cases q)]; exact o.sh b u q
  · rw [upd_ne (fun z => by subst z; rw [e4] at q; cases q)]; exact o.gh b u q
  · rw [upd_ne (fun z => e5 (by rw [q, z]))]; exact o.bx b q
  · by_cases hj : j = i
    · subst hj
      have := get_set_eq q
      subst this
      exact ⟨a, ws, ha, upd_same, e3, e4, e5, r⟩
    · rw [List.getElem?_set_ne (Ne.symm hj)] at q
      have h1 := o.cel j c q
      cases c with
      | no => trivial
      | d x => exact h1
      | m zs =>
        obtain ⟨a2, vs2, f1, f2, f3, f4, f5, r2⟩ := h1
        have hne : a2 ≠ a := fun z => hj (o.dis j i zs xs q hi (by rw [f1, ha, z]))
        exact ⟨a2, vs2, f1, by rw [upd_ne hne]; exact f2, f3, f4, f5, r2⟩
      | b ns =>
        obtain ⟨a2, f1, f2, f3⟩ := h1
        have hne : a2 ≠ a := fun z => e5 (by rw [f2, z])
        exact ⟨a2, f1, f2, by rw [upd_ne hne]; exact f3⟩
  · by_cases h1 : j = i
    · by_cases h2 : l = i
      · rw [h1, h2]
      · rw [List.getElem?_set_ne (Ne.symm h2)] at q2
        exact h1.trans (o.dis i l xs vs' hi q2 (by rw [← h1]; exact e))
    · rw [List.getElem?_set_ne (Ne.symm h1)] at q1
      by_cases h2 : l = i
      · exact (o.dis j i us xs q1 hi (by rw [← h2]; exact e)).trans h2.symm
      · rw [List.getElem?_set_ne (Ne.symm h2)] at q2
        exact o.dis j l us vs' q1 q2 e
end
/-- o.append(e), o a slot's own list -/
def appE (i : Nat) (fs : Rho → R (List VD)) : Rho → R VD := fun ρ => match ρ[i]? with
  | some (.m _) => (fs ρ).bind fun vs ρ1 => (match ρ1[i]?, vs with
    | some (.m xs), [.d y] => if fits (xs.length + 1) then .ok (.d .non) (ρ1.set i (.m (xs ++ [y]))) else .bad
    | _, _ => .bad)
  | _ => .bad
/-- o.pop(k) -/
def popE (i : Nat) (fs : Rho → R (List VD)) : Rho → R VD := fun ρ => match ρ[i]? with
  | some (.m _) => (fs ρ).bind fun vs ρ1 => (match ρ1[i]?, vs with
    | some (.m xs), [.d (.int k)] => if decide (0 ≤ k) && decide (k < 1000000) then (match xs[k.toNat]? with | some y => .ok (.d y) (ρ1.set i (.m (xs.eraseIdx k.toNat))) | none => .bad) else .bad
    | _, _ => .bad)
  | _ => .bad
theorem Rps.erase {K : PySem.W.Frag} {T : Tb} {S : Hp} : ∀ {ds : List D} {vs : List V} (k : Nat), Rps K T S ds vs → Rps K T S (ds.eraseIdx k) (vs.eraseIdx k)
  | [], _, _, h => by rw [show _ = [] from h]; exact rfl
  | d :: ds, _, 0, ⟨v, r, e1, h, hs⟩ => by rw [e1]; exact hs
  | d :: ds, _, k + 1, ⟨v, r, e1, h, hs⟩ => by rw [e1]; exact ⟨v, _, rfl, h, Rps.erase k hs⟩
section
variable {X : Cx} {T : Tb} {W : WX} {e : Expr} {es : List Expr} {fs : Rho → R (List VD)} {pos : Pos}
/-- what a method asks of a slot's own list -/
theorem slotM_of {K : PySem.W.Frag} {i : Nat} {r : V → List V → Hp → VK → Prop} {σ : L2.St} {H : Hp} {Q : VK} {fe : Rho → R VD} {k : List VD → Rho → R VD} (he : ∀ ρ, fe ρ = match ρ[i]? with | some (.m _) => (fs ρ).bind k | _ => .bad)
    (hk : ∀ {β G S H ρ vs us a}, Ok K T β G S σ ρ H → RpVs K T σ S vs us → σ[i]? = some (some (.ref a)) → Post K T W β G S σ (RpV K T σ) (k vs ρ) Q → r (.ref a) us H Q) (h : rE K T W fe σ H Q) : tBM K "list" r (tVar i) (rA K T W fs) σ H Q := by
  obtain ⟨β, G, S, ρ, o, p⟩ := h
  rw [he] at p
  cases q : ρ[i]? with
  | none => rw [q] at p; exact p.elim
  | some c =>
    rw [q] at p
    cases c with
    | m xs =>
      obtain ⟨a, vs, e1, e2, _⟩ := o.cel i _ q
      refine ⟨.ref a, e1, .inl ⟨rfl, vs, SqL.of e2⟩, β, G, S, ρ, o, Post.thn (Rl := RpVs K T σ) p fun S1 H1 ρ1 ws us e3 o1 h1 p1 => hk o1 h1 e1 p1⟩
    | _ => exact p.elim
theorem xe_append (i : Nat) {x : Str} {px apos cpos : Pos} (ha : XA X T W (e :: es) fs) (hN : X.N[i]? = some x := by rfl) (hv : Vis X.env.scope x := by first | exact Or.inl rfl | exact Or.inr (Or.inl rfl) | exact Or.inr (Or.inr rfl)) (hd : (x == ("__debug__" : Str)) = false := by decide) (hcd : (x == ("__classdict__" : Str)) = false := by decide)
    (hbase : attributeBase (.Name x px) "append" X.env (eval (.Name x px) X.env) = eval (.Name x px) X.env := by rfl)
    (hfew : ((backTo cpos (starEach (e :: es) X.env)).all (fun x => !x.1) && (backToKw cpos (keywordEach [] X.env)).all (fun x => x.1.isSome) && decide ((e :: es).length + ([] : List Keyword).length + (if ([] : List Keyword).isEmpty then 0 else 1) < 30)) = true := by rfl)
    (hline : (apos.endLine == cpos.line) = true := by rfl) (hs : starEach (e :: es) X.env = (false, eval e X.env) :: starEach es X.env := by rfl) (hplain : (backTo cpos (starEach es X.env)).any (·.1) = false := by rfl) :
    XE X T W (.Call (.Attribute (.Name x px) "append" apos) (e :: es) [] cpos) (appE i fs) :=
  (pe_bm PySem.F.plainAttrs_list PySem.F.slot_list_append PySem.F.type_list_append mt_append (pe_var hN hv hd hcd) ha hbase hfew hline hs hplain).impQ fun σ H Q h => by
    refine slotM_of (i := i) (fe := appE i fs) (k := fun vs ρ1 => match ρ1[i]?, vs with | some (.m xs), [.d y] => if fits (xs.length + 1) then .ok (.d .non) (ρ1.set i (.m (xs ++ [y]))) else .bad | _, _ => .bad) (fun ρ => rfl) (fun {β G S H ρ vs us a} o hu ha p => ?_) h
    split at p
    · rename_i xs y q
      split at p
      · rename_i hf
        obtain ⟨b, ws, e1, e2, e3, e4, e5, r⟩ := o.cel i _ q
        rw [ha] at e1; cases e1
        obtain ⟨u, rfl, hy⟩ := hu.one
        refine ⟨a, ws, u, rfl, rfl, e2, by rw [r.len]; exact Nat.lt_of_succ_le (fits_line hf), ?_⟩
        exact p S _ .non (Same.refl _) (o.updM q ha (r.append (Rps.one hy))) rfl
      · exact p.elim
    · exact p.elim
theorem xe_pop (i : Nat) {x : Str} {px apos cpos : Pos} (ha : XA X T W (e :: es) fs) (hN : X.N[i]? = some x := by rfl) (hv : Vis X.env.scope x := by first | exact Or.inl rfl | exact Or.inr (Or.inl rfl) | exact Or.inr (Or.inr rfl)) (hd : (x == ("__debug__" : Str)) = false := by decide) (hcd : (x == ("__classdict__" : Str)) = false := by decide)
    (hbase : attributeBase (.Name x px) "pop" X.env (eval (.Name x px) X.env) = eval (.Name x px) X.env := by rfl)
    (hfew : ((backTo cpos (starEach (e :: es) X.env)).all (fun x => !x.1) && (backToKw cpos (keywordEach [] X.env)).all (fun x => x.1.isSome) && decide ((e :: es).length + ([] : List Keyword).length + (if ([] : List Keyword).isEmpty then 0 else 1) < 30)) = true := by rfl)
    (hline : (apos.endLine == cpos.line) = true := by rfl) (hs : starEach (e :: es) X.env = (false, eval e X.env) :: starEach es X.env := by rfl) (hplain : (backTo cpos (starEach es X.env)).any (·.1) = false := by rfl) :
    XE X T W (.Call (.Attribute (.Name x px) "pop" apos) (e :: es) [] cpos) (popE i fs) :=
  (pe_bm PySem.F.plainAttrs_list PySem.F.slot_list_pop PySem.F.type_list_pop mt_popAt (pe_var hN hv hd hcd) ha hbase hfew hline hs hplain).impQ fun σ H Q h => by
    refine slotM_of (i := i) (fe := popE i fs) (k := fun vs ρ1 => match ρ1[i]?, vs with | some (.m xs), [.d (.int k)] => if decide (0 ≤ k) && decide (k < 1000000) then (match xs[k.toNat]? with | some y => .ok (.d y) (ρ1.set i (.m (xs.eraseIdx k.toNat))) | none => .bad) else .bad | _, _ => .bad) (fun ρ => rfl) (fun {β G S H ρ vs us a} o hu ha p => ?_) h
    split at p
    · rename_i xs k q
      split at p
      · rename_i hf
        rw [Bool.and_eq_true] at hf
        have hk0 := of_decide_eq_true hf.1
        have hk1 := of_decide_eq_true hf.2
        split at p
        · rename_i y hy
          obtain ⟨b, ws, e1, e2, e3, e4, e5, r⟩ := o.cel i _ q
          rw [ha] at e1; cases e1
          obtain ⟨u, rfl, hu'⟩ := hu.one
          obtain ⟨v, hv, rv⟩ := r.get hy
          have hlt : k.toNat < ws.length := (List.getElem?_eq_some_iff.mp hv).1
          have hs : seqIndex? k ws.length = some k.toNat := (ixN_seq (show ixN ws.length k = some k.toNat by
            unfold ixN; rw [if_pos hk0, if_pos (by omega)])).1
          refine ⟨a, ws, k, k.toNat, v, rfl, by rw [show u = .int k from hu'], e2, by omega, by omega, hs, hv, ?_⟩
          exact p S _ v (Same.refl _) (o.updM q ha (r.erase _)) rv
        · exact p.elim
      · exact p.elim
    · exact p.elim
end
end Lq
namespace Lq
open PySem PySem.Spec PyProof.Rows L2
theorem xs_never {X : Cx} {T : Tb} {W : WX} {st : Stmt} : XS X T W st (fun _ => .bad) := ps_never.impQ fun De σ H q => by
  obtain ⟨β, G, S, ρ, o, p⟩ := q
  exact p.elim
/-! ### isinstance -/
def tyName : D → String
  | .non => "NoneType"
  | .bl _ => "bool"
  | .int _ => "int"
  | .str _ => "str"
  | .lst _ => "list"
  | .tup _ => "tuple"
  | .obj _ _ => "?"
  | .scr _ => "?"
def isiB (d : D) (t : String) : Bool := tyName d == t || (tyName d == "bool" && t == "int")
theorem kb_all : ∀ a ∈ ["NoneType", "bool", "int", "str", "list", "tuple"], ∀ b ∈ ["int", "str", "bool", "list", "tuple"], kitB a b = some (a == b || (a == "bool" && b == "int")) := by decide +kernel
def notObj : D → Bool
  | .obj _ _ => false
  | .scr _ => false
  | _ => true
theorem ty_mem {d : D} (h : notObj d = true) : tyName d ∈ ["NoneType", "bool", "int", "str", "list", "tuple"] := by
  cases d <;> first | (simp [tyName]; done) | cases h
section
variable {K : PySem.W.Frag} {T : Tb} {S H : Hp}
theorem RpH.ty {d : D} {v : V} (h : RpH K T S H d v) (e : Same S H) (hn : notObj d = true) : TyX K H v (.type (tyName d)) := by
  cases d with
  | non => rw [h.non]; exact .base .non
  | bl b => rw [h.bl]; exact .base (.bl b)
  | int b => rw [h.int]; exact .base (.int b)
  | str b => rw [h.str]; exact .base (.str b)
  | lst xs => obtain ⟨a, vs, rfl, q, _⟩ := h.lst e; exact .base (.lst q)
  | tup xs =>
    obtain ⟨a, vs, rfl, q, _⟩ := h.tup e
    rcases q with (q | ⟨o, q⟩) | ⟨o, its, n, hk, hc, _⟩
    · exact .base (.tup q)
    · exact .fTuple q
    · exact .kTuple hk hc
  | obj _ _ => cases hn
  | scr _ => cases hn
end
def isiE (ts : List String) (fa : Rho → R VD) : Rho → R VD := fun ρ => (fa ρ).bind fun v ρ1 => match res v ρ1 with
  | some d => if notObj d then .ok (.d (.bl (ts.any (isiB d)))) ρ1 else .bad
  | none => .bad
section
variable {X : Cx} {T : Tb} {W : WX} {e : Expr} {es : List Expr} {fa : Rho → R VD} {fs : Rho → R (List VD)} {pos : Pos}
theorem xe_isi1 {t : String} {x : Str} {p p2 : Pos} (hm : X.mg "isinstance" = none) (hv : bootBuiltins "isinstance" = some (.builtin "isinstance")) (hmt : X.mg x = none) (hvt : bootBuiltins x = some (.type t)) (he : XE X T W e fa) (ht : t ∈ ["int", "str", "bool", "list", "tuple"]) (hg : L2.Gl X "isinstance" := by rfl) (hgt : L2.Gl X x := by rfl)
    (hn : x ≠ "__name__" := by decide) (hd : (x == ("__debug__" : Str)) = false := by decide)
    (h1 : starEach [e, .Name x p2] X.env = (false, eval e X.env) :: starEach [.Name x p2] X.env := by rfl) (h2 : starEach [.Name x p2] X.env = (false, eval (.Name x p2) X.env) :: starEach [] X.env := by rfl) (hpl : (backTo pos (starEach [.Name x p2] X.env)).any (·.1) = false := by rfl) :
    XE X T W (.Call (.Name "isinstance" p) [e, .Name x p2] [] pos) (isiE [t] fa) :=
  (pe_callB call_isi hg hm hv (pa_cons he (pa_cons (pe_bltn (v := .ty t) hgt hmt hvt rfl hn hd) pa_nil h2) h1) (by decide) (by decide) h1 hpl).impQ fun σ H Q h => by
    obtain ⟨β, G, S, ρ, o, p⟩ := h
    refine ⟨β, G, S, ρ, o, Post.thn (Rl := RpV X.K T σ) p fun S1 H1 ρ1 v u e1 o1 h1 p1 => ?_⟩
    split at p1
    · rename_i d q
      split at p1
      · rename_i hno
        refine ⟨u, .ty t, .type (tyName d), .type t, _, rfl, .ty t, (o1.res h1 q).ty o1.sh hno, kit_ty (kb_all _ (ty_mem hno) t ht), ?_⟩
        have := p1 S1 H1 (.bl ([t].any (isiB d))) (Same.refl _) o1 rfl
        simpa [isiB] using this
      · exact p1.elim
    · exact p1.elim
theorem xe_isi2 {t t' : String} {x x' : Str} {p p2 p3 p4 : Pos} {kt : Nat} (hm : X.mg "isinstance" = none) (hv : bootBuiltins "isinstance" = some (.builtin "isinstance")) (hmt : X.mg x = none) (hvt : bootBuiltins x = some (.type t)) (hmt' : X.mg x' = none) (hvt' : bootBuiltins x' = some (.type t')) (he : XE X T W e fa)
    (ht : t ∈ ["int", "str", "bool", "list", "tuple"]) (ht' : t' ∈ ["int", "str", "bool", "list", "tuple"]) (hg : L2.Gl X "isinstance" := by rfl) (hgt : L2.Gl X x := by rfl) (hgt' : L2.Gl X x' := by rfl)
    (hn : x ≠ "__name__" := by decide) (hd : (x == ("__debug__" : Str)) = false := by decide) (hn' : x' ≠ "__name__" := by decide) (hd' : (x' == ("__debug__" : Str)) = false := by decide)
    (h1 : starEach [e, .Tuple [.Name x p2, .Name x' p3] kt p4] X.env = (false, eval e X.env) :: starEach [.Tuple [.Name x p2, .Name x' p3] kt p4] X.env := by rfl) (h2 : starEach [.Tuple [.Name x p2, .Name x' p3] kt p4] X.env = (false, eval (.Tuple [.Name x p2, .Name x' p3] kt p4) X.env) :: starEach [] X.env := by rfl)
    (hpl : (backTo pos (starEach [.Tuple [.Name x p2, .Name x' p3] kt p4] X.env)).any (·.1) = false := by rfl)
    (h3 : starEach [.Name x p2, .Name x' p3] X.env = (false, eval (.Name x p2) X.env) :: starEach [.Name x' p3] X.env := by rfl) (h4 : starEach [.Name x' p3] X.env = (false, eval (.Name x' p3) X.env) :: starEach [] X.env := by rfl) :
    XE X T W (.Call (.Name "isinstance" p) [e, .Tuple [.Name x p2, .Name x' p3] kt p4] [] pos) (isiE [t, t'] fa) :=
  (pe_callB call_isiT hg hm hv (pa_cons he (pa_cons (pe_tup (pa_cons (pe_bltn (v := .ty t) hgt hmt hvt rfl hn hd) (pa_cons (pe_bltn (v := .ty t') hgt' hmt' hvt' rfl hn' hd') pa_nil h4) h3)) pa_nil h2) h1) (by decide) (by decide) h1 hpl).impQ fun σ H Q h => by
    obtain ⟨β, G, S, ρ, o, p⟩ := h
    refine ⟨β, G, S, ρ, o, Post.thn (Rl := RpV X.K T σ) p fun S1 H1 ρ1 v u e1 o1 h1 p1 => ?_⟩
    split at p1
    · rename_i d q
      split at p1
      · rename_i hno
        refine ⟨by show 2 ≤ sizeLine; rw [sizeLine_eq]; decide, fun a ha => ⟨u, a, [.ty t, .ty t'], .type (tyName d), [.type t, .type t'], [t, t'].any (isiB d), rfl, upd_same, .cons (.ty t) (.cons (.ty t') .nil), ?_, ?_, ?_⟩⟩
        · have e3 := Ext.skip (o := .tup [.ty t, .ty t']) o1.sh ha
          have h3 : RpH X.K T S1 (upd H1 a (.tup [.ty t, .ty t'])) d u := by
            rcases o1.res h1 q with z | ⟨b, vs, xs, z1, z2, z3, z4⟩
            · exact .inl z
            · exact .inr ⟨b, vs, xs, z1, z2, same_new ha _ _ z3, z4⟩
          exact h3.ty e3.sh hno
        · refine kitAny_cons (kit_ty (kb_all _ (ty_mem hno) t ht)) (fun hb => kitAny_cons (kit_ty (kb_all _ (ty_mem hno) t' ht')) (fun hb' => kitAny_nil.trans ?_) fun hb' => ?_) fun hb => ?_
          · simp only [isiB, List.any_cons, List.any_nil, Bool.or_false]; rw [hb, hb']; rfl
          · simp only [isiB, List.any_cons, List.any_nil, Bool.or_false]; rw [hb', Bool.or_true]
          · simp only [isiB, List.any_cons, List.any_nil, Bool.or_false]; rw [hb, Bool.true_or]
        · exact p1 S1 _ _ (Same.refl _) (o1.ext (Ext.skip o1.sh ha)) rfl
      · exact p1.elim
    · exact p1.elim

/-! ### keywords alone: f(k = v, ..), in the order of the parameters -/
def XK (X : Cx) (T : Tb) (W : WX) (kws : List Keyword) (f : Rho → R (List VD)) : Prop := PK X kws (rA X.K T W f)
theorem _root_.L2.PK.impQ {X : Cx} {e : List Keyword} {t t' : TA} (h : PK X e t) (i : ∀ σ H Q, t' σ H Q → t σ H Q) : PK X e t' := ⟨fun pos pins s σ H Q I w => h.run pos pins s σ H Q I (i σ H Q w)⟩
theorem xk_nil : XK X T W [] nilA := pk_nil.impQ fun σ H Q h => by
  obtain ⟨β, G, S, ρ, o, p⟩ := h
  exact p S H [] (Same.refl _) o rfl
theorem xk_cons {kws : List Keyword} {nm : Option Str} {kpos : Pos} (ha : XE X T W e fa) (hs : XK X T W kws fs) : XK X T W (⟨nm, e, kpos⟩ :: kws) (consA fa fs) := (pk_cons ha hs).impQ fun σ H Q h => by
  obtain ⟨β, G, S, ρ, o, p⟩ := h
  refine ⟨β, G, S, ρ, o, Post.thn (Rl := RpV X.K T σ) p fun S1 H1 ρ1 v u e1 o1 h1 p1 => ?_⟩
  refine ⟨β, G, S1, ρ1, o1, Post.thn (Rl := RpVs X.K T σ) p1 fun S2 H2 ρ2 vs us e2 o2 h2 p2 => ?_⟩
  exact p2 S2 H2 _ (Same.refl _) o2 ⟨u, us, rfl, h1.mono e2, h2⟩
/-- how keywords alone bind -/
def KwB (K : PySem.W.Frag) (fd : FuncData) (ps : List Str) : Prop := ∀ (s : Shared) (ws : List Value), K.In s.heap → ws.length = ps.length → BindsTo s fd ⟨[], ps.zip ws⟩ (ps.zip ws)
theorem kwB_of {K : PySem.W.Frag} {x qual : Str} {st : Stmt} {f : Addr} {fd : FuncData} {ps : List Str} (F : Fun K x qual st f fd)
    (h : ∀ (kV doc pm : Value) (an : Option Addr) (cdv ct : Value) (ws : List Value), ws.length = ps.length → bindArgs (PySem.W.fnOf x qual (defArgs st) (defBody st) (defScope st) .none kV doc pm an cdv ct) ⟨[], ps.zip ws⟩ = pure (ps.zip ws)) : KwB K fd ps := by
  obtain ⟨oc, od, kV, doc, pm, an, cdv, ct, osl, rfl, lk, hcd⟩ := F.ex
  exact fun s ws _ hl => .of_eq (h kV doc pm an cdv ct ws hl)
theorem pe_kw0 {CX : CXT} {k : Nat} {f : Addr} {fd : FuncData} {ps : List Str} {sp : Sp} {E : L2.St → L2.XK} {x : Str} {p : Pos} {kws : List Keyword} {tk : TA} (Fk : FnOk X.prog X.w X.K X.mg X.base CX k f fd ps sp) (hr : Room k X.A) (hg : L2.Gl X x) (hm : X.mg x = some (.ref f)) (hk : PySem.W.keepIn X.K (.ref f) = true) (hb : KwB X.K fd ps) (hx : ∀ σ, PassesAt CX X σ (E σ))
    (hkw : PK X kws tk) (hall : (backToKw pos (keywordEach kws X.env)).all (·.1.isSome) = true := by rfl) (hks : (backToKw pos (keywordEach kws X.env)).filterMap (·.1) = ps := by rfl)
    (hdb : (x == ("__debug__" : Str)) = false := by decide) (hpl : ((backTo pos (starEach [] X.env)).any (·.1) || (backToKw pos (keywordEach kws X.env)).any (·.1.isNone)) = false := by rfl) :
    PE X (.Call (.Name x p) [] kws pos) (tCallS sp E tk) := by
  refine ⟨fun pins s σ H Q I h => wpAny_Call_Name_kw (ld_glob I hg hm ?_ hdb)⟩
  refine PySem.W.callWith_KW0 (h₀ := X.base) I.ok.mod.kin hk hall (thn (hkw.run pos pins s σ H _ I h) fun ws s2 ⟨zs, H2, I2, rz, q2⟩ => ⟨I2.kIn, ?_⟩) hpl
  rw [hks]
  have hl : ws.length = ps.length := by rw [← rz.length]; exact Fk.len _ _ _ _ q2
  refine wpAny_call (codeAny_mono (Fk.run X.A X.stack s2 H2 ⟨[], ps.zip ws⟩ ws zs Q (E σ) hr I2.env0 (hb s2 ws I2.kIn hl) rz q2) fun r s' hq => ?_)
  cases r with
  | error e => exact hx σ pins H2 s2 e s' I2 hq
  | ok fl => cases fl with
    | ret u => exact I2.after hq
    | _ => exact hq.elim
theorem xe_callKw {F : List D → Res} {k : Nat} {f : Addr} {fd : FuncData} {ps : List Str} {n : Nat} {x : Str} {p : Pos} {kws : List Keyword} (Fk : FnOk X.prog X.w X.K X.mg X.base (L2.CX X.prog X.w) k f fd ps (spP X.K T n F)) (hr : Room k X.A) (hm : X.mg x = some (.ref f)) (hk : PySem.W.keepIn X.K (.ref f) = true) (hb : KwB X.K fd ps)
    (tk : Takes X W) (hn : ∀ ds, F ds ≠ .bad → ds.length = n) (ha : XK X T W kws fs) (hg : L2.Gl X x := by rfl) (hall : (backToKw pos (keywordEach kws X.env)).all (·.1.isSome) = true := by rfl) (hks : (backToKw pos (keywordEach kws X.env)).filterMap (·.1) = ps := by rfl)
    (hdb : (x == ("__debug__" : Str)) = false := by decide) (hpl : ((backTo pos (starEach [] X.env)).any (·.1) || (backToKw pos (keywordEach kws X.env)).any (·.1.isNone)) = false := by rfl) :
    XE X T W (.Call (.Name x p) [] kws pos) (callE F fs) :=
  (pe_kw0 Fk hr hg hm hk hb (fun σ => passAt tk σ) ha hall hks hdb hpl).impQ fun _ _ _ h => call_of hn h
end

/-! ### defs that hand back a new list; the box made anew -/
def spL (K : PySem.W.Frag) (T : Tb) (n : Nat) (F : List D → Option (List D)) : Sp := fun vs H Q _ => ∃ S ds, Same S H ∧ Rps K T S ds vs ∧ ds.length = n ∧ match F ds with
  | some xs => Gf K T S H xs Q
  | none => False
section
variable {X : Cx} {T : Tb} {W : WX} {e e0 : Expr} {es : List Expr} {fa : Rho → R VD} {fs : Rho → R (List VD)} {pos : Pos}
def callL (F : List D → Option (List D)) (fs : Rho → R (List VD)) : Rho → R (List D) := fun ρ => (fs ρ).bind fun vs ρ1 => match datAll vs with
  | some ds => (match F ds with | some xs => .ok xs ρ1 | none => .bad)
  | none => .bad
theorem xf_call {F : List D → Option (List D)} {k : Nat} {f : Addr} {fd : FuncData} {ps : List Str} {n : Nat} {x : Str} {p : Pos} (Fk : FnOk X.prog X.w X.K X.mg X.base (L2.CX X.prog X.w) k f fd ps (spL X.K T n F)) (hr : Room k X.A) (hm : X.mg x = some (.ref f)) (hk : PySem.W.keepIn X.K (.ref f) = true) (hb : Binds X.K fd ps [])
    (tk : Takes X W) (hn : ∀ ds, F ds ≠ none → ds.length = n) (ha : XA X T W (e :: es) fs) (hg : L2.Gl X x := by rfl) (hdb : (x == ("__debug__" : Str)) = false := by decide) (he : starEach (e :: es) X.env = (false, eval e X.env) :: starEach es X.env := by rfl) (hpl : (backTo pos (starEach es X.env)).any (·.1) = false := by rfl) :
    XF X T W (.Call (.Name x p) (e :: es) [] pos) (callL F fs) :=
  (pe_callS Fk hr hg hm hk hb (fun σ => passAt tk σ) ha hdb he hpl).impQ fun σ H Q h => by
    obtain ⟨β, G, S, ρ, o, p⟩ := h
    refine ⟨β, G, S, ρ, o, PostF.thn (Rl := RpVs X.K T σ) p fun S1 H1 ρ1 vs us e1 o1 h1 p1 => ?_⟩
    split at p1
    · rename_i ds q
      refine ⟨S1, ds, o1.sh, datAll_rps q h1, hn ds (fun z => by rw [z] at p1; exact p1), ?_⟩
      revert p1
      cases F ds with
      | none => exact fun p1 => p1
      | some xs => exact fun p1 => p1.gf o1
    · exact p1.elim
theorem Ok.extF {K : PySem.W.Frag} {β : Option Addr} {G S S' H H' : Hp} {σ : L2.St} {ρ : Rho} {b : Addr} {ns' : List Int} (o : Ok K T β G S σ ρ H) (fr : Fre β G S σ ρ b) (e : ExtB b ns' S H S' H') : Ok K T β G S' σ ρ H' where
  sh := e.sh
  gh := fun c u q => e.h c u (fun z => by subst z; rw [fr.g] at q; cases q) (o.gh c u q)
  gs := fun c u q => (e.fr c u (o.gh c u q)).trans (o.gs c u q)
  gb := fun c q => by
    obtain ⟨ms, hb⟩ := o.bx c q
    exact ⟨(o.gb c q).1, (e.fr c _ hb).trans (o.gb c q).2⟩
  bx := fun c q => by
    obtain ⟨ms, hb⟩ := o.bx c q
    exact ⟨ms, e.h c _ (fun z => fr.b (by rw [q, z])) hb⟩
  len := o.len
  cel := fun j c q => by
    have h1 := o.cel j c q
    cases c with
    | no => trivial
    | d x => obtain ⟨u, e1, r⟩ := h1; exact ⟨u, e1, Rp.mono e.s _ _ r⟩
    | m xs =>
      obtain ⟨a, vs, e1, e2, e3, e4, e5, r⟩ := h1
      exact ⟨a, vs, e1, e.h _ _ (fun z => fr.sl j xs q (by rw [e1, z])) e2, (e.fr _ _ e2).trans e3, e4, e5, Rps.mono e.s _ _ r⟩
    | b ms =>
      obtain ⟨a, e1, e2, e3⟩ := h1
      exact ⟨a, e1, e2, e.h _ _ (fun z => fr.b (by rw [e2, z])) e3⟩
  dis := o.dis
/-- f(new list): the list is f's box -/
def callNew (F : List Int → List D → Option (D × List Int)) (f : Rho → R (List D)) : Rho → R VD := fun ρ => (f ρ).bind fun ds ρ1 => match allOf D.int? ds with
  | some ns => (match F ns [] with | some (d, _) => .ok (.d d) ρ1 | none => .bad)
  | none => .bad
theorem xe_callNew {F : List Int → List D → Option (D × List Int)} {k : Nat} {f : Addr} {fd : FuncData} {ps : List Str} {x : Str} {p : Pos} {ff : Rho → R (List D)} (Fk : FnOk X.prog X.w X.K X.mg X.base (L2.CX X.prog X.w) k f fd ps (spB X.K T 0 F)) (hr : Room k X.A) (hm : X.mg x = some (.ref f)) (hk : PySem.W.keepIn X.K (.ref f) = true) (hb : Binds X.K fd ps [])
    (tk : Takes X W) (ha : XF X T W e ff) (hg : L2.Gl X x := by rfl) (hdb : (x == ("__debug__" : Str)) = false := by decide) (he : starEach [e] X.env = (false, eval e X.env) :: starEach [] X.env := by rfl) (hpl : (backTo pos (starEach [] X.env)).any (·.1) = false := by rfl) :
    XE X T W (.Call (.Name x p) [e] [] pos) (callNew F ff) :=
  (pe_callS Fk hr hg hm hk hb (fun σ => passAt tk σ) (pa_cons ha pa_nil he) hdb he hpl).impQ fun σ H Q h => by
    obtain ⟨β, G, S, ρ, o, p⟩ := h
    refine ⟨β, G, S, ρ, o, ?_⟩
    unfold callNew at p
    revert p
    cases ff ρ with
    | bad => exact fun p => p
    | err x ρ1 => exact fun p => p
    | ok ds ρ1 =>
      intro p S1 H1 b vs e1 o1 fr hv r
      dsimp only [R.bind] at p
      cases q : allOf D.int? ds with
      | none => rw [q] at p; exact p.elim
      | some ns =>
        rw [q] at p
        have ez := allOf_ints q
        subst ez
        have := r.intsV
        subst this
        refine ⟨S1, b, ns, [], [], rfl, o1.sh, fr.s, hv, rfl, rfl, ?_⟩
        dsimp only at p
        revert p
        cases F ns [] with
        | none => exact fun p => p.elim
        | some dn => exact fun p S2 H2 v x2 rv => p S2 H2 v (e1.trans x2.s) (o1.extF fr x2) rv
end
section
variable {P : Program} {w : World} {K : PySem.W.Frag} {mg : Str → Option Value} {base : Heap} {T : Tb}
def runL (a n : Nat) (f : Rho → O) (ds : List D) : Option (List D) := if ds.length = a then (match f (startR n ds) with
  | .rf xs _ => some xs
  | _ => none) else none
theorem runL_len {a n : Nat} {f : Rho → O} (ds : List D) (h : runL a n f ds ≠ none) : ds.length = a := by
  unfold runL at h
  split at h
  · assumption
  · exact (h rfl).elim
theorem fn_new {x qual : Str} {st : Stmt} {f : Addr} {fd : FuncData} {N ps : List Str} {k : Nat} {g : Rho → O} (F : Fun K x qual st f fd) (Sc : FnScope N ps (defScope st))
    (hbody : ∀ (cdv : Value) (A : Around) (outer : List PySem.Env) (s : Shared) (H : Hp) (E : L2.XK), Room k (A.deeper (envOfC qual (defScope st) s.heap.objs.size f cdv)) →
      PassesOwn (model P w) (cxOf (L2.CX P w) P w K mg base N qual (defScope st) f cdv A outer s H E).A (cxOf (L2.CX P w) P w K mg base N qual (defScope st) f cdv A outer s H E).env (cxOf (L2.CX P w) P w K mg base N qual (defScope st) f cdv A outer s H E).xe →
      XB (cxOf (L2.CX P w) P w K mg base N qual (defScope st) f cdv A outer s H E) T W0 (defBody st) g) :
    FnOk P w K mg base (L2.CX P w) (k + 1) f fd ps (spL K T ps.length (runL ps.length N.length g)) := by
  refine F.okX Sc (fun vs H Q E h => ?_) (fun cdv A outer s H vs Q E hr h => ?_)
  · obtain ⟨S, ds, e, r, hl, _⟩ := h
    rw [r.len, hl]
  · obtain ⟨S, ds, e, r, hl, p⟩ := h
    refine ⟨_, hbody cdv A outer s H E hr (passes_of rfl), none, besides S H, S, startR N.length ds, ?_, ?_⟩
    · refine ⟨e, besides_same, fun b o q => besides_apart q, fun b q => (nomatch q), fun b q => (nomatch q), ?_, fun i c q => start_cell r q, fun i j xs ys q => (start_noM q).elim⟩
      unfold L2.start startR
      rw [List.length_append, List.length_append, List.length_map, List.length_map, List.length_replicate, List.length_replicate, r.len]
    · unfold runL at p
      rw [if_pos hl] at p
      revert p
      cases g (startR N.length ds) with
      | rf ds' ρ' =>
        intro p S' σ' H' a vs' e1 o fr hv r'
        have x1 : Ext S H S' H' := ext_of e e1 o.sh o.gh o.gs
        refine p S' H' a vs' x1 ?_ fr.s hv r'
        cases z : H a with
        | none => rfl
        | some u =>
          exfalso
          cases y : S a with
          | none => have := fr.g; rw [besides_of z y] at this; cases this
          | some u' => have := x1.s a u' y; rw [fr.s] at this; cases this
      | nx ρ' => exact fun p => p.elim
      | rt v ρ' => exact fun p => p.elim
      | err x ρ' => exact fun p => p.elim
      | bk ρ' => exact fun p => p.elim
      | ct ρ' => exact fun p => p.elim
      | bad => exact fun p => p.elim
end
end Lq
namespace Lq
open PySem PySem.Spec PyProof.Rows L2
/-- x[k] = e, x a slot's own list or the box -/
def isMB : Option Cell → Bool
  | some (.m _) => true
  | some (.b _) => true
  | _ => false
def putS1 (i : Nat) (v kk : VD) (ρ : Rho) : O := match ρ[i]?, v, kk with
  | some (.m xs), .d y, .d (.int k) => (match ixN xs.length k with | some j => .nx (ρ.set i (.m (xs.set j y))) | none => .bad)
  | some (.b ns), .d (.int y), .d (.int k) => if onlyB i ρ then (match ixN ns.length k with | some j => .nx (ρ.set i (.b (ns.set j y))) | none => .bad) else .bad
  | _, _, _ => .bad
def putItem (i : Nat) (fe fk : Rho → R VD) : Rho → O := fun ρ => (fe ρ).thnO fun v ρ1 => if isMB ρ1[i]? then ((fk ρ1).thnO fun kk ρ2 => putS1 i v kk ρ2) else .bad
section
variable {X : Cx} {T : Tb} {W : WX} {e k : Expr} {fe fk : Rho → R VD} {pos px ps : Pos} {x : Str}
theorem xs_item (i : Nat) (he : XE X T W e fe) (hk : XE X T W k fk) (hN : X.N[i]? = some x := by rfl) (hv : Vis X.env.scope x := by first | exact Or.inl rfl | exact Or.inr (Or.inl rfl) | exact Or.inr (Or.inr rfl)) (hd : (x == ("__debug__" : Str)) = false := by decide) (hcd : (x == ("__classdict__" : Str)) = false := by decide)
    (ha : ∀ v, assign (.Subscript (.Name x px) k ps) X.env v = (do
      let ov ← holding [v] (eval (.Name x px) X.env)
      let iv ← holding [v, ov] (eval k X.env)
      standAt ps
      holding [v, ov, iv] (setItem ov iv v)
      release [v, ov, iv] []) := by intro _; rfl)
    (hs : swapsWithSole [.Subscript (.Name x px) k ps] e pos.line X.env = pure false := by rfl) (hw : swappedStores [.Subscript (.Name x px) k ps] e X.env = pure none := by rfl)
    (h1 : (assignEach [.Subscript (.Name x px) k ps] X.env).map (·.2) = [assign (.Subscript (.Name x px) k ps) X.env] := by rfl) : XS X T W (.Assign [.Subscript (.Name x px) k ps] e pos) (putItem i fe fk) :=
  (ps_asg he (pg_sub (pe_var hN hv hd hcd) hk set_list ha) hs hw h1).impQ fun De σ H q => by
    obtain ⟨β, G, S, ρ, o, p⟩ := q
    refine ⟨β, G, S, ρ, o, PostS.thn (Rl := RpV X.K T σ) p fun S1 H1 ρ1 v u e1 o1 h1 p1 => ?_⟩
    have hslot : isMB ρ1[i]? = true → ∃ a, σ[i]? = some (some (.ref a)) := fun hm => by
      cases q1 : ρ1[i]? with
      | none => rw [q1] at hm; cases hm
      | some c =>
        rw [q1] at hm
        cases c with
        | m xs => obtain ⟨a, _, ea, _⟩ := o1.cel i _ q1; exact ⟨a, ea⟩
        | b ns => obtain ⟨a, ea, _⟩ := o1.cel i _ q1; exact ⟨a, ea⟩
        | no => cases hm
        | d _ => cases hm
    by_cases hm : isMB ρ1[i]? = true
    · rw [if_pos hm] at p1
      obtain ⟨a, ea⟩ := hslot hm
      refine ⟨.ref a, ea, β, G, S1, ρ1, o1, PostS.thn (Rl := RpV X.K T σ) p1 fun S2 H2 ρ2 kk u2 e2 o2 h2 p2 => ?_⟩
      unfold putS1 at p2
      split at p2
      · rename_i xs y kz q2
        split at p2
        · rename_i j hj
          obtain ⟨b, ws, f1, f2, f3, f4, f5, r⟩ := o2.cel i _ q2
          rw [ea] at f1; cases f1
          refine ⟨a, ws, kz, j, rfl, h2, f2, by rw [r.len]; exact hj, ?_⟩
          exact p2 S2 σ _ (Same.refl _) (o2.updM q2 ea (r.set j (Rp.mono e2 _ _ h1)))
        · exact p2.elim
      · rename_i ns y kz q2
        split at p2
        · rename_i hob
          split at p2
          · rename_i j hj
            obtain ⟨b, f1, f2, f3⟩ := o2.cel i _ q2
            rw [ea] at f1; cases f1
            subst f2
            refine ⟨a, ns.map V.int, kz, j, rfl, h2, f3, by rw [List.length_map]; exact hj, ?_⟩
            have hu : u = .int y := h1
            subst hu
            have es : (ns.map V.int).set j (.int y) = (ns.set j y).map V.int := by rw [List.map_set]
            rw [es]
            refine p2 S2 σ _ (Same.refl _) (o2.extB ⟨Same.refl _, fun c o' hc q => by rw [upd_ne hc]; exact q, upd_same, fun c o' q => ?_, fun c o' q => rfl⟩ q2 hob)
            have hc : c ≠ a := fun z => by subst z; rw [(o2.gb c rfl).2] at q; cases q
            rw [upd_ne hc]; exact o2.sh c o' q
          · exact p2.elim
        · exact p2.elim
      · exact p2.elim
    · rw [if_neg hm] at p1; exact p1.elim
end
/-- a constant of the module: a tuple of texts -/
theorem rp_kstrs {K : PySem.W.Frag} {T : Tb} {a : Addr} {o : Obj} {its : Array Value} {n : Nat} {ss : List Str} (hk : K.lookup a = some o) (hc : o.cls = .type "tuple") (hd : o.data = .seq its n) (hz : its.size ≤ sizeLine) (hv : Vals (ss.map V.str) its.toList) (S : Hp) : Rp K T S (.tup (ss.map D.str)) (.ref a) :=
  ⟨a, ss.map V.str, rfl, .inr ⟨o, its, n, hk, hc, hd, hz, hv⟩, Rps.strs ss⟩
end Lq
namespace Lq
open PySem PySem.Spec PyProof.Rows L2
/-! ### sorted of a list or a tuple, by what the library says of gathering -/
theorem sorted_keeps {h : Heap} {a b : Addr} {vs : List Value} {out : Array Value} {o : Obj} (hb : b ≠ a) (e : h.get? b = some o) : (sortedHeap h a vs out).get? b = some o := by
  unfold sortedHeap
  rw [Heap.get?_update_other _ _ (Ne.symm hb)]
  exact Heap.get?_push_of_some _ (Heap.get?_push_of_some _ ((Heap.get?_update_other _ _ (Ne.symm hb)).trans e))
theorem sorted_there {h : Heap} {a : Addr} {vs : List Value} {out : Array Value} {xs : Array Value} {n : Nat} (e : h.get? a = some (seqObj "list" xs n)) : ∃ k, (sortedHeap h a vs out).get? a = some (seqObj "list" out k) := by
  have e1 := Heap.get?_push_of_some (seqObj "list" #[] 0) (Heap.get?_push_of_some (seqObj "tuple" vs.toArray 0) (get?_update_seq e fun _ => #[]))
  exact ⟨_, get?_update_seq e1 fun _ => out⟩
theorem sorted_any {prog : Program} {w : World} {A : Around} {E : Value → Shared → Prop} {s : Shared} {κ : PyProof.Rows.KeyKind} (one : κ.OneLt) {it : Addr} {T : String} {ob : Obj} {vs : List Value} {n : Nat} {Q : Value → Shared → Prop}
    (hT : T = "list" ∨ T = "tuple") (at_ : s.heap.get? it = some ob) (cl : ob.cls = .type T) (dt : ob.data = .seq vs.toArray n) (keys : KeysOf κ (pairsOf vs)) (kk : ∀ v₁ v₂ rest, vs = v₁ :: v₂ :: rest → keyKind' (v₁ :: v₂ :: rest).toArray = pure oneType') (small : vs.length ≤ sizeLine)
    (go : ∀ (p : Addr) (h' : Heap) (st : SortSt), s.heap.get? p = none → (∀ b o, s.heap.get? b = some o → h'.get? b = some o) → (arrOf st).Perm (pairsOf vs) → SortedToK κ (arrOf st) (pairsOf vs).size → (∃ e, h'.get? p = some (seqObj "list" ((arrOf st).map (·.2)) e)) → Q (.ref p) { s with heap := h' }) :
    wpAny (model prog w) A (call (.builtin "sorted") [.ref it]) Q E s := by
  refine Calls.call_function_entry kind_sorted plain_sorted entry_sorted (args_sorted1 _) ?_
  show wpAny _ _ (Builtin.«sorted» _) _ _ _
  unfold Builtin.«sorted»
  refine wpAny_bind (m := checkCount "sorted" 1 1 _) (wpAny_pure (wpAny_bind (wpAny_collect_seq it hT at_ cl dt (fun h1 k1 => wpAny_bind (wpAny_newList ?_ (hsz := small))) (by simpa using small))))
  have here : (h1.push (seqObj "list" vs.toArray 0)).get? h1.objs.size = some (seqObj "list" vs.toArray 0) := Heap.get?_push_size _ rfl
  refine wpAny_bind (wpAny_holding (wpAny_call_entry slot_list_sort (s := { s with heap := h1.push (seqObj "list" vs.toArray 0) }) ⟨_, here, rfl⟩ entry_list_sort (list_sort_treeKAny one here keys kk small fun st e1 e2 => ⟨_, rfl, wpAny_pure ⟨_, rfl, ?_⟩⟩) (args_list_sort _)))
  have none_ : s.heap.get? h1.objs.size = none := by
    cases e : s.heap.get? h1.objs.size with
    | none => rfl
    | some o => exact absurd (Heap.lt_size (k1 _ _ e)) (Nat.lt_irrefl _)
  exact go _ _ st none_ (fun b o e => sorted_keeps (fun z => by rw [z, none_] at e; cases e) (Heap.get?_push_of_some _ (k1 b o e))) e1 e2 (sorted_there here)
/-! ### sorted lists of data -/
def insS (x : Str) : List Str → List Str
  | [] => [x]
  | y :: r => if decide (y.cps.toList < x.cps.toList) then y :: insS x r else x :: y :: r
def sortStrs : List Str → List Str
  | [] => []
  | x :: r => insS x (sortStrs r)
def insI (x : Int) : List Int → List Int
  | [] => [x]
  | y :: r => if decide (y < x) then y :: insI x r else x :: y :: r
def sortInts : List Int → List Int
  | [] => []
  | x :: r => insI x (sortInts r)
theorem insI_perm (x : Int) : ∀ l : List Int, (insI x l).Perm (x :: l)
  | [] => .refl _
  | y :: r => by
    unfold insI
    split
    · exact ((insI_perm x r).cons y).trans (.swap x y r)
    · exact .refl _
theorem sortInts_perm : ∀ l : List Int, (sortInts l).Perm l
  | [] => .refl _
  | x :: r => (insI_perm x _).trans ((sortInts_perm r).cons x)
theorem insI_sorted (x : Int) : ∀ l : List Int, l.Pairwise (· ≤ ·) → (insI x l).Pairwise (· ≤ ·)
  | [], _ => by simp [insI]
  | y :: r, h => by
    have h1 := List.pairwise_cons.mp h
    unfold insI
    split
    · rename_i hlt
      have hlt' := of_decide_eq_true hlt
      refine List.pairwise_cons.mpr ⟨fun z hz => ?_, insI_sorted x r h1.2⟩
      rcases List.mem_cons.mp ((insI_perm x r).mem_iff.mp hz) with rfl | hz
      · omega
      · exact h1.1 z hz
    · rename_i hlt
      have hlt' : ¬ y < x := fun z => hlt (decide_eq_true z)
      refine List.pairwise_cons.mpr ⟨fun z hz => ?_, h⟩
      rcases List.mem_cons.mp hz with rfl | hz
      · omega
      · have := h1.1 z hz; omega
theorem sortInts_sorted : ∀ l : List Int, (sortInts l).Pairwise (· ≤ ·)
  | [] => .nil
  | x :: r => insI_sorted x _ (sortInts_sorted r)
theorem uniq_ints {a b : List Int} (p : a.Perm b) (ha : a.Pairwise (· ≤ ·)) (hb : b.Pairwise (· ≤ ·)) : a = b :=
  List.Perm.eq_of_pairwise (fun x y _ _ h1 h2 => Int.le_antisymm h1 h2) ha hb p
/-- texts by their signs -/
theorem str_ext {x y : Str} (h : x.cps.toList = y.cps.toList) : x = y := by
  cases x; cases y
  simp only at h
  congr
  exact Array.toList_inj.mp h
def leS (x y : Str) : Prop := ¬ y.cps.toList < x.cps.toList
theorem leS_anti {x y : Str} (h1 : leS x y) (h2 : leS y x) : x = y := str_ext (List.le_antisymm (show x.cps.toList ≤ y.cps.toList from h1) h2)
theorem leS_trans {x y z : Str} (h1 : leS x y) (h2 : leS y z) : leS x z := List.le_trans (show x.cps.toList ≤ y.cps.toList from h1) (show y.cps.toList ≤ z.cps.toList from h2)
theorem insS_perm (x : Str) : ∀ l : List Str, (insS x l).Perm (x :: l)
  | [] => .refl _
  | y :: r => by
    unfold insS
    split
    · exact ((insS_perm x r).cons y).trans (.swap x y r)
    · exact .refl _
theorem sortStrs_perm : ∀ l : List Str, (sortStrs l).Perm l
  | [] => .refl _
  | x :: r => (insS_perm x _).trans ((sortStrs_perm r).cons x)
theorem insS_sorted (x : Str) : ∀ l : List Str, l.Pairwise leS → (insS x l).Pairwise leS
  | [], _ => by simp [insS]
  | y :: r, h => by
    have h1 := List.pairwise_cons.mp h
    unfold insS
    split
    · rename_i hlt
      have hlt' := of_decide_eq_true hlt
      refine List.pairwise_cons.mpr ⟨fun z hz => ?_, insS_sorted x r h1.2⟩
      rcases List.mem_cons.mp ((insS_perm x r).mem_iff.mp hz) with rfl | hz
      · exact List.lt_asymm hlt'
      · exact h1.1 z hz
    · rename_i hlt
      have hlt' : leS x y := fun z => hlt (decide_eq_true z)
      refine List.pairwise_cons.mpr ⟨fun z hz => ?_, h⟩
      rcases List.mem_cons.mp hz with rfl | hz
      · exact hlt'
      · exact leS_trans hlt' (h1.1 z hz)
theorem sortStrs_sorted : ∀ l : List Str, (sortStrs l).Pairwise leS
  | [] => .nil
  | x :: r => insS_sorted x _ (sortStrs_sorted r)
theorem uniq_strs {a b : List Str} (p : a.Perm b) (ha : a.Pairwise leS) (hb : b.Pairwise leS) : a = b :=
  List.Perm.eq_of_pairwise (fun x y _ _ h1 h2 => leS_anti h1 h2) ha hb p
end Lq
namespace Lq
open PySem PySem.Spec PyProof.Rows L2
theorem rising_iff : ∀ (p : Str) (r : List Str), risingS p r = true → (p :: r).Pairwise leS
  | p, [], _ => List.pairwise_singleton _ _
  | p, x :: r, h => by
    unfold risingS at h
    rw [Bool.and_eq_true, Bool.not_eq_true', ltCps_eq] at h
    have h2 := rising_iff x r h.2
    have hpx : leS p x := fun z => by rw [decide_eq_true z] at h; exact Bool.noConfusion h.1
    refine List.pairwise_cons.mpr ⟨fun z hz => ?_, h2⟩
    rcases List.mem_cons.mp hz with rfl | hz
    · exact hpx
    · exact leS_trans hpx ((List.pairwise_cons.mp h2).1 z hz)
theorem sortedS_pw {l : List Str} (h : sortedS l = true) : l.Pairwise leS := by
  cases l with
  | nil => exact .nil
  | cons x r => exact rising_iff x r h
def SqA (K : PySem.W.Frag) (H : Hp) (a : Addr) (xs : List V) : Prop := SqL K H a xs ∨ SqT K H a xs
def rSortA (K : PySem.W.Frag) : List V → Hp → VK → Prop := fun vs H Q => ∃ a, vs = [.ref a] ∧
  ((∃ ns : List Int, SqA K H a (ns.map V.int) ∧ ∀ p, H p = none → Q (.ref p) (upd H p (.lst ((sortInts ns).map V.int)))) ∨
   (∃ ss : List Str, SqA K H a (ss.map V.str) ∧ ∀ p, H p = none → Q (.ref p) (upd H p (.lst ((sortStrs ss).map V.str)))))
/-- the object behind a sequence -/
theorem seq_obj {X : Cx} {pins : List (Addr × Obj)} {σ : L2.St} {H : Hp} {s : Shared} {a : Addr} {xs : List V} (I : Inv X pins σ H s) (h : SqA X.K H a xs) : ∃ (its : List Value) (T : String) (o : Obj) (n : Nat), Vals xs its ∧ its.length ≤ sizeLine ∧ (T = "list" ∨ T = "tuple") ∧ s.heap.get? a = some o ∧ o.cls = .type T ∧ o.data = .seq its.toArray n := by
  rcases h with h | h
  · obtain ⟨its, rv, hl, hz⟩ := I.list h
    obtain ⟨o, e, c, n, d⟩ := hl.isList
    exact ⟨its, "list", o, n, rv, rv.length ▸ hz, Or.inl rfl, e, c, d⟩
  · obtain ⟨its, rv, ⟨o, e, c, n, d⟩, hz⟩ := I.tuple h
    exact ⟨its, "tuple", o, n, rv, rv.length ▸ hz, Or.inr rfl, e, c, d⟩
theorem call_sortedA {X : Cx} : CallR X (.builtin "sorted") (rSortA X.K) := by
  intro pins s σ H vs us Q I r h
  obtain ⟨a, rfl, h⟩ := h
  rw [Vals.ref1 r]
  have fin : ∀ {p : Addr} {h' : Heap} {ws : List V} {out : List Value} {ep : Nat}, s.heap.get? p = none → (∀ b o, s.heap.get? b = some o → h'.get? b = some o) → h'.get? p = some (seqObj "list" out.toArray ep) → Vals ws out → ws.length ≤ sizeLine → (∀ q, H q = none → Q (.ref q) (upd H q (.lst ws))) →
      ∃ v H1, Inv X pins σ H1 { s with heap := h' } ∧ RelV v (.ref p) ∧ Q v H1 := fun {p h' ws out ep} n k e rv hz q =>
    ⟨.ref p, upd H p (.lst ws), I.laidN (t' := s.toks) k n (I.hok.gone n) ⟨hz, out, ep, rv, e⟩, rfl, q p (I.hok.gone n)⟩
  rcases h with ⟨ns, hq, q⟩ | ⟨ss, hq, q⟩
  · obtain ⟨its, T, o, n, rv, hz, hT, e, c, d⟩ := seq_obj I hq
    have hi := rv.ints
    refine sorted_any intKind_oneLt hT e c d hi.keysOfInt (fun v₁ v₂ rest e => keyKind_ints (e ▸ hi)) hz fun p h' st n k hp hs ⟨ep, ee⟩ => ?_
    obtain ⟨ms, h1, h2, h3⟩ := sorted_out hi hp (sortedTo_of_int hs)
    cases uniq_ints (h2.trans (sortInts_perm ns).symm) h3 (sortInts_sorted ns)
    have hl := rv.length
    rw [List.length_map] at hl
    exact fin n k ee (vals_of_ints h1) (by rw [List.length_map, (sortInts_perm ns).length_eq, hl]; exact hz) q
  · obtain ⟨its, T, o, n, rv, hz, hT, e, c, d⟩ := seq_obj I hq
    have hi := rv.strs
    refine sorted_any strKind_oneLt hT e c d hi.keysOf (fun v₁ v₂ rest e => keyKind_strs (e ▸ hi)) hz fun p h' st n k hp hs ⟨ep, ee⟩ => ?_
    obtain ⟨ms, h1, h2, h3⟩ := sorted_out_str hi hp hs
    cases uniq_strs (h2.trans (sortStrs_perm ss).symm) (sortedS_pw h3) (sortStrs_sorted ss)
    have hl := rv.length
    rw [List.length_map] at hl
    exact fin n k ee (vals_of_strs h1) (by rw [List.length_map, (sortStrs_perm ss).length_eq, hl]; exact hz) q
/-- ints, or texts -/
def sortDs (xs : List D) : Option (List D) := match allOf D.int? xs with
  | some ns => some ((sortInts ns).map D.int)
  | none => (match allOf D.str? xs with
    | some ss => some ((sortStrs ss).map D.str)
    | none => none)
def sortedF : List D → Option (List D)
  | [x] => (match x.items? with | some xs => sortDs xs | none => none)
  | _ => none
theorem p_sorted {K : PySem.W.Frag} {T : Tb} : PrimNF K T (rSortA K) sortedF := fun S H xs ds d Q e h hg g => by
  unfold sortedF at hg
  split at hg
  case h_2 => cases hg
  case h_1 x =>
  obtain ⟨u, rfl, hu⟩ := h.one
  split at hg
  case h_2 => cases hg
  case h_1 ys q =>
  have hA : ∃ a vs, u = .ref a ∧ SqA K H a vs ∧ Rps K T S ys vs := by
    cases x with
    | lst zs => cases q; obtain ⟨a, vs, e1, q', r⟩ := hu.lst e; exact ⟨a, vs, e1, .inl (SqL.of q'), r⟩
    | tup zs => cases q; obtain ⟨a, vs, e1, q', r⟩ := hu.tup e; exact ⟨a, vs, e1, .inr q', r⟩
    | _ => cases q
  obtain ⟨a, vs, rfl, hq, r⟩ := hA
  unfold sortDs at hg
  split at hg
  · rename_i ns q2
    cases hg
    have ez := allOf_ints q2
    subst ez
    have := r.intsV
    subst this
    exact ⟨a, rfl, .inl ⟨ns, hq, fun p hp => g.new e (Rps.ints _) p hp⟩⟩
  · split at hg
    · rename_i ss q2
      cases hg
      have ez := allOf_strs q2
      subst ez
      have := r.strsV
      subst this
      exact ⟨a, rfl, .inr ⟨ss, hq, fun p hp => g.new e (Rps.strs _) p hp⟩⟩
    · cases hg

/-! ### t[::-1] -/
section
variable {prog : Program} {w : World} {A : Around} {E : Value → Shared → Prop} {s : Shared}
theorem back_pick (xs : List Value) : ((List.range xs.length).filterMap fun (m : Nat) => xs.toArray[(((xs.length : Int) - 1) + (m : Int) * (-1)).toNat]?) = xs.reverse := by
  apply List.ext_getElem?
  intro i
  have hm : ∀ l : List Nat, (∀ m ∈ l, m < xs.length) → (l.filterMap fun (m : Nat) => xs.toArray[(((xs.length : Int) - 1) + (m : Int) * (-1)).toNat]?) = l.map fun m => xs.getD (xs.length - 1 - m) .none := by
    intro l
    induction l with
    | nil => intro _; rfl
    | cons m r ih =>
      intro hl
      have h1 := hl m List.mem_cons_self
      have e1 : (((xs.length : Int) - 1) + (m : Int) * (-1)).toNat = xs.length - 1 - m := by omega
      have e2 : xs.toArray[xs.length - 1 - m]? = some (xs.getD (xs.length - 1 - m) .none) := by
        rw [List.getElem?_toArray, List.getD_eq_getElem?_getD, List.getElem?_eq_getElem (by omega)]; rfl
      rw [List.filterMap_cons, e1, e2, List.map_cons, ih fun z hz => hl z (List.mem_cons_of_mem _ hz)]
  rw [hm _ fun m h => List.mem_range.mp h]
  by_cases hi : i < xs.length
  · rw [List.getElem?_map, List.getElem?_range hi, List.getElem?_reverse hi, Option.map_some, List.getD_eq_getElem?_getD, List.getElem?_eq_getElem (by omega)]
    rfl
  · rw [List.getElem?_eq_none (by simpa using hi), List.getElem?_eq_none (by simpa using hi)]
theorem back_tuple {t sl : Addr} {xs : List Value} {vu : Value} {Q : Value → Shared → Prop} (ht : IsTup s.heap t xs.toArray) (hs : s.heap.IsSliceOf sl .none .none vu) (pu : IsPart vu (some (-1))) (hsz : xs.length ≤ sizeLine)
    (h : Q (.ref s.heap.objs.size) { s with heap := s.heap.push { cls := .type "tuple", data := .seq xs.reverse.toArray } }) : wpAny (model prog w) A (getItem (.ref t) (.ref sl)) Q E s := by
  have hfit : sizeOk (.seq xs.reverse.toArray) := by
    show xs.reverse.toArray.size ≤ sizeLine
    rw [List.size_toArray, List.length_reverse]; exact hsz
  obtain ⟨ob, hob, hcl, hdt⟩ := id hs
  have hty : s.TypeIs (.ref sl) "slice" := ⟨ob, hob, hcl⟩
  unfold getItem
  try with_reducible refine wpAny_holding ?_
  first | refine wpAny_bind (wpAny_pure ?_) | skip
  refine wpAny_bind (wpAny_sequenceKey ht.typeIs (by decide) (wpAny_bind (wpAny_callSpecial?_slot (name := Str.ofString "__getitem__") ht.typeIs PyProof.Rows.slot_tuple_getitem
    (wpAny_call_entry PyProof.Rows.slot_tuple_getitem ht.typeIs entry_tuple_getitem (show wpAny _ _ (Builtin.Tuple.tupleItemsOf (.ref t) >>= _) _ _ s from ?_) (args_tuple_getitem _ _)))))
  refine wpAny_bind (tupleItemsOf_ ht (wpAny_bind (wpAny_typeOf hty ?_)))
  rw [if_pos (by decide)]
  have happ : ∀ {Q' : Int × Int × Nat → Shared → Prop}, Q' ((xs.length : Int) - 1, -1, xs.length) s → wpAny (model prog w) A.in1 (Builtin.Slice.sliceApplied (.ref sl) (pure ((xs.toArray.size : Nat) : Int))) Q' E s := fun {Q'} hq => by
    unfold Builtin.Slice.sliceApplied Builtin.Slice.sliceFields
    refine wpAny_bind (wpAny_bind (wpAny_field hob hdt (x := .none) rfl (wpAny_bind (wpAny_field hob hdt (x := .none) rfl (wpAny_bind (wpAny_field hob hdt (x := vu) rfl (wpAny_pure ?_)))))))
    refine wpAny_bind (HT.slicePart_ pu (show wpAny _ _ (if ((-1 : Int) == 0) = true then _ else _) _ _ s from ?_))
    rw [if_neg (by decide)]
    refine wpAny_bind (slicePart_none (wpAny_bind (slicePart_none (wpAny_bind (wpAny_pure ?_)))))
    have ea : Builtin.Slice.sliceAdjust none none (-1) ((xs.toArray.size : Nat) : Int) = ((xs.length : Int) - 1, -1) := by
      unfold Builtin.Slice.sliceAdjust
      simp
    have ep : Builtin.Slice.slicePlaces ((xs.length : Int) - 1) (-1) (-1) = xs.length := by
      unfold Builtin.Slice.slicePlaces
      have h1 : ¬ ((-1 : Int) > 0) := by omega
      simp only [h1, if_false, Int.neg_neg, Int.ediv_one]
      split <;> omega
    show wpAny _ _ (match Builtin.Slice.sliceAdjust none none (-1) ((xs.toArray.size : Nat) : Int) with | (lo, hi) => pure (lo, (-1 : Int), Builtin.Slice.slicePlaces lo hi (-1))) _ _ s
    rw [ea]
    show wpAny _ _ (pure ((xs.length : Int) - 1, (-1 : Int), Builtin.Slice.slicePlaces ((xs.length : Int) - 1) (-1) (-1))) _ _ s
    rw [ep]
    exact wpAny_pure hq
  refine wpAny_bind (happ ?_)
  have hno : ¬ ((((xs.length : Int) - 1) == 0 && (-1 : Int) == 1 && xs.length == xs.toArray.size) = true) := by
    intro z
    rw [Bool.and_eq_true, Bool.and_eq_true] at z
    exact absurd z.1.2 (by decide)
  show wpAny _ _ (if ((((xs.length : Int) - 1) == 0 && (-1 : Int) == 1 && xs.length == xs.toArray.size) = true) then _ else _) _ _ s
  rw [if_neg hno, back_pick]
  first
    | exact wpAny_bind (m := Builtin.Tuple.tupleExact _) (wpAny_newObj_type (wpAny_pure ⟨_, rfl, wpAny_pure h⟩) hfit)
    | exact wpAny_bind (m := Builtin.Tuple.tupleExact _) (wpAny_newObj_type (wpAny_bind (wpAny_pure (wpAny_pure ⟨_, rfl, wpAny_pure h⟩))) hfit)
    | exact wpAny_bind (wpAny_bind (m := Builtin.Tuple.tupleExact _) (wpAny_newObj_type (wpAny_pure (wpAny_pure ⟨_, rfl, wpAny_pure h⟩)) hfit))
    | exact wpAny_bind (wpAny_bind (m := Builtin.Tuple.tupleExact _) (wpAny_newObj_type (wpAny_pure ⟨_, rfl, wpAny_pure h⟩) hfit))
end
def tRevT (K : PySem.W.Frag) (te : TE) : TE := fun σ H Q => te σ H fun x H1 => ∃ a xs, x = .ref a ∧ ((SqL K H1 a xs ∧ ∀ p, H1 p = none → Q (.ref p) (upd H1 p (.lst xs.reverse))) ∨ (SqT K H1 a xs ∧ ∀ p, H1 p = none → Q (.ref p) (upd H1 p (.tup xs.reverse))))
section
variable {X : Cx} {T : Tb} {W : WX} {e : Expr} {es : List Expr} {fa : Rho → R VD} {fs : Rho → R (List VD)} {pos : Pos}
theorem pe_back {te : TE} {k : Nat} {p1 p2 p3 : Pos} (he : PE X e te) : PE X (.Subscript e (.Slice none none (some (.UnaryOp .USub (.Constant (.int 1) k p1) p2)) p3) pos) (tRevT X.K te) := by
  refine ⟨fun pins s σ H Q I h => Subscript_ (thn (he.run pins s σ H _ I h) fun v s1 ⟨x, H1, I1, r1, q1⟩ => ?_)⟩
  obtain ⟨a, xs, rfl, q1⟩ := q1
  cases r1
  have hneg : PO X (some (.UnaryOp .USub (.Constant (.int 1) k p1) p2)) (tPart (tUn (rU fun i => .int (-i)) (tC (.int 1)))) := po_some (pe_un un_neg pe_int)
  refine wpAny_Slice (thn (po_none.run pins s1 σ H1 (fun o H2 => o = none ∧ H2 = H1) I1 ⟨rfl, rfl⟩) fun vl s2 ⟨l, H2, I2, pl, el, e2⟩ => ?_)
  subst el e2
  refine thn (po_none.run pins s2 σ H2 (fun o H3 => o = none ∧ H3 = H2) I2 ⟨rfl, rfl⟩) fun vh s3 ⟨u, H3, I3, ph, eu, e3⟩ => ?_
  subst eu e3
  refine thn (hneg.run pins s3 σ H3 (fun o H4 => o = some (-1) ∧ H4 = H3) I3 ⟨1, rfl, -1, rfl, rfl, rfl⟩) fun vs s4 ⟨o, H4, I4, ps, eo, e4⟩ => ?_
  subst eo e4
  cases pl
  cases ph
  have I5 : Inv X pins σ H4 { s4 with heap := s4.heap.push { cls := .type "slice", data := .fields #[.none, .none, vs] } } := I4.kept (t' := s4.toks) fun b ob q => Heap.get?_push_of_some _ q
  show wpAny (model X.prog X.w) X.A (subscriptTail e (.Slice none none (some (.UnaryOp .USub (.Constant (.int 1) k p1) p2)) p3) (.ref a) (.ref s4.heap.objs.size)) (EP X pins σ Q) X.xe { s4 with heap := s4.heap.push { cls := .type "slice", data := .fields #[.none, .none, vs] } }
  rcases q1 with ⟨hx, q⟩ | ⟨hx, q⟩
  · obtain ⟨its, r, ht, hz⟩ := I5.list hx
    have hn := r.length
    refine tail_any (ops := [.ref a, .ref s4.heap.objs.size]) ht.isList.typeIs (PySem.slot_list_getitem.lookup) (wpAny_getItem_list_slice ht.isList (Heap.IsSliceOf.new _ .none .none vs) .none .none ps (by decide) ?_ (by rw [List.size_toArray]; omega)) (by with_unfolding_all rfl)
    rw [PySem.W.krv_pick]
    exact ⟨.ref _, _, I5.laid (t' := s4.toks) (o := .lst xs.reverse) (fun b ob q => Heap.get?_push_of_some _ q) (Nat.le_refl _) ⟨by rw [List.length_reverse]; exact hz, _, 0, r.reverse, Heap.get?_push_size _ rfl⟩, rfl, q _ (I5.hok.fresh (Nat.le_refl _))⟩
  · obtain ⟨its, r, ht, hz⟩ := I5.tuple hx
    have hn := r.length
    refine tail_any (ops := [.ref a, .ref s4.heap.objs.size]) ht.typeIs (PyProof.Rows.slot_tuple_getitem.lookup) (back_tuple ht (Heap.IsSliceOf.new _ .none .none vs) ps (by omega) ?_) (by with_unfolding_all rfl)
    exact ⟨.ref _, _, I5.laid (t' := s4.toks) (o := .tup xs.reverse) (fun b ob q => Heap.get?_push_of_some _ q) (Nat.le_refl _) ⟨by rw [List.length_reverse]; exact hz, _, r.reverse, IsTup.new _ _⟩, rfl, q _ (I5.hok.fresh (Nat.le_refl _))⟩
def revD : D → Option D
  | .lst xs => some (.lst xs.reverse)
  | .tup xs => some (.tup xs.reverse)
  | _ => none
theorem xe_back {k : Nat} {p1 p2 p3 : Pos} (he : XE X T W e fa) : XE X T W (.Subscript e (.Slice none none (some (.UnaryOp .USub (.Constant (.int 1) k p1) p2)) p3) pos) (op1E revD fa) := (pe_back he).impQ fun σ H Q h =>
  tUn_of (r := fun x H1 Q => ∃ a xs, x = .ref a ∧ ((SqL X.K H1 a xs ∧ ∀ p, H1 p = none → Q (.ref p) (upd H1 p (.lst xs.reverse))) ∨ (SqT X.K H1 a xs ∧ ∀ p, H1 p = none → Q (.ref p) (upd H1 p (.tup xs.reverse))))) (fun S H x dx d Q e hx h g => by
    unfold revD at h
    split at h
    · cases h
      obtain ⟨a, vs, rfl, q, r⟩ := hx.lst e
      exact ⟨a, vs, rfl, .inl ⟨SqL.of q, fun p hp => g.newL e r.reverse p hp⟩⟩
    · cases h
      obtain ⟨a, vs, rfl, q, r⟩ := hx.tup e
      exact ⟨a, vs, rfl, .inr ⟨q, fun p hp => g.newT e r.reverse p hp⟩⟩
    · cases h) h
/-! ### f() -/
theorem xe_call0 {F : List D → Res} {k : Nat} {f : Addr} {fd : FuncData} {x : Str} {p : Pos} (Fk : FnOk X.prog X.w X.K X.mg X.base (L2.CX X.prog X.w) k f fd [] (spP X.K T 0 F)) (hr : Room k X.A) (hm : X.mg x = some (.ref f)) (hk : PySem.W.keepIn X.K (.ref f) = true) (hb : KwB X.K fd [])
    (tk : Takes X W) (hn : ∀ ds, F ds ≠ .bad → ds.length = 0) (hg : L2.Gl X x := by rfl) (hdb : (x == ("__debug__" : Str)) = false := by decide) :
    XE X T W (.Call (.Name x p) [] [] pos) (callE F nilA) := xe_callKw Fk hr hm hk hb tk hn xk_nil hg rfl rfl hdb rfl
/-! ### a or b, a new list of either -/
def orF (f g : Rho → R (List D)) : Rho → R (List D) := fun ρ => (f ρ).bind fun ds ρ1 => if ds.isEmpty then g ρ1 else .ok ds ρ1
theorem xf_or {a b : Expr} {f g : Rho → R (List D)} (ha : XF X T W a f) (hb : XF X T W b g) : XF X T W (.BoolOp .Or [a, b] pos) (orF f g) := (pe_orT ha (pe_one hb)).impQ fun σ H Q h => by
  obtain ⟨β, G, S, ρ, o, p⟩ := h
  refine ⟨β, G, S, ρ, o, ?_⟩
  unfold orF at p
  revert p
  cases f ρ with
  | bad => exact fun p => p
  | err x ρ1 => exact fun p => p
  | ok ds ρ1 =>
    intro p S1 H1 a1 vs e1 o1 fr hv r
    dsimp only [R.bind] at p
    refine ⟨!vs.isEmpty, .inl ⟨vs, SqL.of hv, rfl⟩, ?_⟩
    have hl := r.len
    cases ds with
    | nil =>
      have : vs = [] := List.length_eq_zero_iff.mp hl
      subst this
      exact iteF ⟨β, G, S1, ρ1, o1, PostF.mono p e1⟩
    | cons d dr =>
      cases vs with
      | nil => cases hl
      | cons v vr => exact iteT (p S1 H1 a1 _ e1 o1 fr hv r)
end
theorem cx_no {P : Program} {w : World} {l : List PySem.Env} {H : Hp} {s s' : Shared} {e : Value} (h : L2.CX P w l H s (fun _ _ _ => False) e s') : False := by
  obtain ⟨_, _, _, _, _, _, _, _, _, _, _, _, z⟩ := h
  exact z
end Lq
namespace Lq
open PySem
/-! ### plain laws of the mirrors -/
theorem comp_all {vs : List Nat} {gd : D → Rho → Option Rho} {ft : Rho → R Bool} {fe : Rho → R VD} {g : D → List D} {ρ : Rho} : ∀ (ds acc : List D),
    (∀ d ∈ ds, (g d).length ≤ 1 ∧ ∀ acc' : List D, acc'.length + 1 ≤ 1000000 → ∃ ρ1, compTurn gd ft fe acc' d ρ = .ok (acc' ++ g d) ρ1 ∧ wipeR ρ1 vs = ρ) → acc.length + ds.length ≤ 1000000 →
    compLoop vs gd ft fe acc ds ρ = .ok (acc ++ ds.flatMap g) ρ
  | [], acc, _, _ => by simp [compLoop]
  | d :: ds, acc, h, hl => by
    obtain ⟨h1, h2⟩ := h d List.mem_cons_self
    rw [List.length_cons] at hl
    obtain ⟨ρ1, e1, e2⟩ := h2 acc (by omega)
    rw [compLoop, e1]
    dsimp only
    rw [e2, comp_all ds _ (fun z hz => h z (List.mem_cons_of_mem _ hz)) (by rw [List.length_append]; omega), List.flatMap_cons, List.append_assoc]
theorem flatMap_one {α β : Type} (f : α → β) (l : List α) : (l.flatMap fun x => [f x]) = l.map f := by
  induction l with
  | nil => rfl
  | cons x r ih => rw [List.flatMap_cons, ih]; rfl
theorem flatMap_if {α β : Type} (p : α → Bool) (f : α → β) (l : List α) : (l.flatMap fun x => if p x then [f x] else []) = (l.filter p).map f := by
  induction l with
  | nil => rfl
  | cons x r ih =>
    rw [List.flatMap_cons, ih, List.filter_cons]
    split <;> rfl
theorem allOf_map_int (l : List Int) : allOf D.int? (l.map D.int) = some l := by
  induction l with
  | nil => rfl
  | cons x r ih => rw [List.map_cons, allOf]; simp [D.int?, ih]
theorem allOf_map_str (l : List Str) : allOf D.str? (l.map D.str) = some l := by
  induction l with
  | nil => rfl
  | cons x r ih => rw [List.map_cons, allOf]; simp [D.str?, ih]
theorem allOf_map_bl (l : List Bool) : allOf D.bl? (l.map D.bl) = some l := by
  induction l with
  | nil => rfl
  | cons x r ih => rw [List.map_cons, allOf]; simp [D.bl?, ih]
def isT : Res → Bool
  | .ok (.bl true) => true
  | _ => false
theorem isT_of {r : Res} (h : isT r = true) : r = .ok (.bl true) := by
  unfold isT at h
  split at h
  · rfl
  · cases h
/-- the box of draws: k draws at most were made -/
structure Bx (k : Nat) (ns : List Int) : Prop where
  at_ : ∃ b0 b1 b2, ns = [b0, b1, b2] ∧ 0 ≤ b0 ∧ 0 ≤ b1 ∧ b1 < 4611686018427387904 ∧ 0 ≤ b2 ∧ b2 ≤ k
theorem Bx.mono {j k : Nat} {ns : List Int} (h : Bx j ns) (e : j ≤ k) : Bx k ns := by
  obtain ⟨b0, b1, b2, h1, h2, h3, h4, h5, h6⟩ := h
  exact ⟨b0, b1, b2, h1, h2, h3, h4, h5, by omega⟩
theorem big_of {i : Int} (h1 : -18446744073709551616 < i) (h2 : i < 18446744073709551616) : big i = true := by
  unfold big
  exact Nat.ble_eq_true_of_le (by omega)
def drawn (b1 b2 n : Int) : Int :=
  ((((((b1 + 48271 * (b2 + 1)) * (39373 + (b2 + 1))) % 2147483647 + (b2 + 1) + b1 / 1000003) * (((b1 + 48271 * (b2 + 1)) * (39373 + (b2 + 1))) % 2147483647 % 40009 + 7)) % 2147483629 * 48271 + ((b1 + 48271 * (b2 + 1)) * (39373 + (b2 + 1))) % 2147483647) % 2147483587 / 64) % n
/-- cells of the script: the loop's turns keep three ints -/
theorem enumD_cons (x : D) (r : List D) : enumD (x :: r) = D.tup [.int 0, x] :: (r.zipIdx 1).map fun p => D.tup [.int (p.2 : Nat), p.1] := rfl
theorem cutL_to {α : Type} (xs : List α) (n : Nat) : cutL xs none (some (n : Int)) = xs.take n := by
  unfold cutL
  rw [HT.sIx_none, HT.sIx_nat, List.drop_zero, Nat.sub_zero, ← List.take_eq_take_min]
theorem cutL_at {α : Type} (xs : List α) (n : Nat) : cutL xs (some (n : Int)) none = xs.drop n := by
  unfold cutL
  rw [HT.sIx_none, HT.sIx_nat]
  by_cases h : n ≤ xs.length
  · rw [Nat.min_eq_left h, ← List.length_drop, List.take_length]
  · rw [Nat.min_eq_right (by omega), Nat.sub_self, List.take_zero, List.drop_eq_nil_of_le (by omega)]
theorem cutL_ft {α : Type} (xs : List α) (m n : Nat) : cutL xs (some (m : Int)) (some (n : Int)) = (xs.take n).drop m := by
  unfold cutL
  rw [HT.sIx_nat, HT.sIx_nat, List.drop_take]
  by_cases h : m ≤ xs.length
  · rw [Nat.min_eq_left h]
    by_cases h2 : n ≤ xs.length
    · rw [Nat.min_eq_left h2]
    · rw [Nat.min_eq_right (by omega), List.take_of_length_le (by rw [List.length_drop]; omega), List.take_of_length_le (by rw [List.length_drop]; omega)]
  · rw [Nat.min_eq_right (by omega : xs.length ≤ m), List.drop_eq_nil_of_le (Nat.le_refl _), List.drop_eq_nil_of_le (by omega : xs.length ≤ m), List.take_nil, List.take_nil]
theorem rng_mem {n : Nat} {d : D} (h : d ∈ rng 0 n) : ∃ k : Nat, k < n ∧ d = .int k := by
  unfold rng at h
  simp at h
  obtain ⟨k, h1, h2⟩ := h
  exact ⟨k, h1, by rw [← h2]⟩
theorem fits_of {n : Nat} (h : n ≤ 1000000) : fits n = true := by
  unfold fits
  exact decide_eq_true (by omega)
theorem rng_true (n : Nat) (y : D) : ((rng 0 n).map fun _ => y) = List.replicate n y := by
  unfold rng
  rw [List.map_map]
  exact List.ext_getElem (by simp) fun i h1 h2 => by simp
theorem all_true (n : Nat) : allD [.lst (List.replicate n (D.bl true))] = some (.bl true) := by
  have e : List.replicate n (D.bl true) = (List.replicate n true).map D.bl := by rw [List.map_replicate]
  rw [e, allD, allOf_map_bl]
  simp
theorem comp_inv {vs : List Nat} {gd : D → Rho → Option Rho} {ft : Rho → R Bool} {fe : Rho → R VD} (I : Nat → Rho → Prop) (y : D) (N : Nat) : ∀ (ds acc : List D) (k : Nat) (ρ : Rho), I k ρ →
    (∀ d ∈ ds, ∀ k ρ, ∀ acc' : List D, I k ρ → k < N → fits (acc'.length + 1) = true → ∃ ρ1, compTurn gd ft fe acc' d ρ = .ok (acc' ++ [y]) ρ1 ∧ I (k + 1) (wipeR ρ1 vs)) → acc.length + ds.length ≤ 1000000 → k + ds.length ≤ N →
    ∃ ρ', compLoop vs gd ft fe acc ds ρ = .ok (acc ++ ds.map fun _ => y) ρ' ∧ I (k + ds.length) ρ'
  | [], acc, k, ρ, hi, _, _, _ => ⟨ρ, by simp [compLoop], hi⟩
  | d :: ds, acc, k, ρ, hi, h, hl, hn => by
    rw [List.length_cons] at hl hn
    obtain ⟨ρ1, e1, e2⟩ := h d List.mem_cons_self k ρ acc hi (by omega) (fits_of (by omega))
    obtain ⟨ρ2, e3, e4⟩ := comp_inv I y N ds (acc ++ [y]) (k + 1) _ e2 (fun z hz => h z (List.mem_cons_of_mem _ hz)) (by rw [List.length_append, List.length_singleton]; omega) (by omega)
    refine ⟨ρ2, ?_, by rw [List.length_cons, show k + (ds.length + 1) = k + 1 + ds.length by omega]; exact e4⟩
    rw [compLoop, e1]
    dsimp only
    rw [e3, List.map_cons, List.append_assoc]
    rfl
theorem okR_small {i : Int} (h1 : -1000000000000 ≤ i) (h2 : i ≤ 1000000000000) : okR i = true := by
  unfold okR
  exact Nat.ble_eq_true_of_le (by omega)
theorem loop_inv {body : D → Rho → O} (I : Nat → Rho → Prop) : ∀ (ds : List D) (k : Nat) (ρ : Rho), I k ρ → (∀ (j : Nat) (d : D) (ρ : Rho), ds[j]? = some d → I (k + j) ρ → ∃ ρ1, body d ρ = .nx ρ1 ∧ I (k + j + 1) ρ1) →
    ∃ ρ', loopS body ds ρ = .nx ρ' ∧ I (k + ds.length) ρ'
  | [], k, ρ, hi, _ => ⟨ρ, rfl, hi⟩
  | d :: ds, k, ρ, hi, h => by
    obtain ⟨ρ1, e1, h1⟩ := h 0 d ρ rfl hi
    obtain ⟨ρ2, e2, h2⟩ := loop_inv I ds (k + 1) ρ1 h1 (fun j d' ρ' hj hi' => by
      obtain ⟨ρ3, e3, h3⟩ := h (j + 1) d' ρ' hj (by rw [show k + (j + 1) = k + 1 + j by omega]; exact hi')
      exact ⟨ρ3, e3, by rw [show k + 1 + j + 1 = k + (j + 1) + 1 by omega]; exact h3⟩)
    refine ⟨ρ2, ?_, by rw [List.length_cons, show k + (ds.length + 1) = k + 1 + ds.length by omega]; exact h2⟩
    rw [loopS, e1]
    exact e2
theorem rng_len (lo : Int) (n : Nat) : (rng lo n).length = n := by unfold rng; rw [List.length_map, List.length_range]
theorem rng_at {lo : Int} {n j : Nat} {d : D} (h : (rng lo n)[j]? = some d) : j < n ∧ d = .int (lo + j) := by
  have hj : j < n := by
    have := (List.getElem?_eq_some_iff.1 h).1
    rw [rng_len] at this
    exact this
  refine ⟨hj, ?_⟩
  unfold rng at h
  rw [List.getElem?_map, List.getElem?_range hj] at h
  exact (Option.some.inj h).symm
theorem erase_perm {α : Type} {l : List α} {i : Nat} (h : i < l.length) : (l[i] :: l.eraseIdx i).Perm l := by
  induction l generalizing i with
  | nil => exact absurd h (Nat.not_lt_zero _)
  | cons a r ih => cases i with
    | zero => exact List.Perm.refl _
    | succ i =>
      rw [List.getElem_cons_succ, List.eraseIdx_cons_succ]
      exact (List.Perm.swap _ _ _).trans ((ih (Nat.lt_of_succ_lt_succ h)).cons _)
end Lq
namespace Lq
open PySem
/-! ### whole comprehensions, equal data -/
theorem compF_map {vs : List Nat} {fi : Rho → R (List D)} {gd : D → Rho → Option Rho} {fe : Rho → R VD} {ρ : Rho} {ds : List D} (g : D → D) (hi : fi ρ = .ok ds ρ) (hw : wipeR ρ vs = ρ) (hb : backR ρ ρ vs = ρ) (hp : (vs.all fun v => plainC (ρ.getD v .no)) = true)
    (hl : ds.length ≤ 1000000) (h : ∀ d ∈ ds, ∃ ρ1 ρ2, gd d ρ = some ρ1 ∧ fe ρ1 = .ok (.d (g d)) ρ2 ∧ wipeR ρ2 vs = ρ) : compF vs fi gd yesT fe ρ = .ok (ds.map g) ρ := by
  have e := comp_all (vs := vs) (gd := gd) (ft := yesT) (fe := fe) (g := fun d => [g d]) (ρ := ρ) ds [] (fun d hd => ⟨by simp, fun acc ha => by
    obtain ⟨ρ1, ρ2, e1, e2, e3⟩ := h d hd
    refine ⟨ρ2, ?_, e3⟩
    simp only [Lq.compTurn, e1, yesT, R.bind, e2, if_true, fits_of ha]⟩) (by rw [List.length_nil]; omega)
  rw [List.nil_append, flatMap_one] at e
  simp only [Lq.compF, hi, R.bind, hp, hw, e, hb, if_true]
theorem compF_inv {vs : List Nat} {fi : Rho → R (List D)} {gd : D → Rho → Option Rho} {fe : Rho → R VD} {ρ : Rho} {ds : List D} (I : Nat → Rho → Prop) (y : D) (N : Nat) (hi : fi ρ = .ok ds ρ) (hw : wipeR ρ vs = ρ) (hb : ∀ k ρ', I k ρ' → backR ρ ρ' vs = ρ') (hp : (vs.all fun v => plainC (ρ.getD v .no)) = true)
    (hl : ds.length ≤ 1000000) (hN : ds.length ≤ N) (h0 : I 0 ρ) (h : ∀ d ∈ ds, ∀ k ρ, I k ρ → k < N → ∃ ρ1 ρ2, gd d ρ = some ρ1 ∧ fe ρ1 = .ok (.d y) ρ2 ∧ I (k + 1) (wipeR ρ2 vs)) : ∃ ρ', compF vs fi gd yesT fe ρ = .ok (ds.map fun _ => y) ρ' ∧ I ds.length ρ' := by
  obtain ⟨ρ', e, hI⟩ := comp_inv (vs := vs) (gd := gd) (ft := yesT) (fe := fe) I y N ds [] 0 ρ h0 (fun d hd k ρ acc hi hk hf => by
    obtain ⟨ρ1, ρ2, e1, e2, e3⟩ := h d hd k ρ hi hk
    refine ⟨ρ2, ?_, e3⟩
    simp only [Lq.compTurn, e1, yesT, R.bind, e2, if_true, hf]) (by rw [List.length_nil]; omega) (by omega)
  rw [Nat.zero_add] at hI
  refine ⟨ρ', ?_, hI⟩
  rw [List.nil_append] at e
  simp only [Lq.compF, hi, R.bind, hp, hw, e, hb _ _ hI, if_true]
/-- data of at most n levels, no list too long -/
def good : Nat → D → Bool
  | 0, _ => false
  | n + 1, .lst xs => decide (xs.length ≤ 1000000) && xs.all (good n)
  | n + 1, .tup xs => decide (xs.length ≤ 1000000) && xs.all (good n)
  | _ + 1, .non => true
  | _ + 1, .bl _ => true
  | _ + 1, .int _ => true
  | _ + 1, .str _ => true
  | _ + 1, _ => false
/-- the same, its texts of plain signs -/
def fine : Nat → D → Bool
  | 0, _ => false
  | n + 1, .lst xs => xs.all (fine n)
  | n + 1, .tup xs => xs.all (fine n)
  | _ + 1, .non => true
  | _ + 1, .bl _ => true
  | _ + 1, .int _ => true
  | _ + 1, .str s => PyData.strOk s
  | _ + 1, _ => false
theorem fines_plain {n : Nat} (h : ∀ d, fine n d = true → plainD d = true ∧ (toPy d).depth ≤ n ∧ ((toPy d).canLay0 = true)) : ∀ ys : List D, (∀ x ∈ ys, fine n x = true) → plainDs ys = true ∧ PyData.depthAll (toPys ys) ≤ n ∧ PyData.canLayAll0 (toPys ys) = true
  | [], _ => ⟨rfl, by simp [toPys, PyData.depthAll], by simp [toPys, PyData.canLayAll0]⟩
  | y :: r, q => by
    obtain ⟨a1, a2, a3⟩ := h y (q y List.mem_cons_self)
    obtain ⟨b1, b2, b3⟩ := fines_plain h r fun x hx => q x (List.mem_cons_of_mem _ hx)
    exact ⟨by simp [plainDs, a1, b1], by simp [toPys, PyData.depthAll]; omega, by simp [toPys, PyData.canLayAll0, a3, b3]⟩
theorem fine_plain : ∀ (n : Nat) (d : D), fine n d = true → plainD d = true ∧ (toPy d).depth ≤ n ∧ ((toPy d).canLay0 = true)
  | 0, _, h => by cases h
  | n + 1, d, h => by
    cases d with
    | non => exact ⟨rfl, by simp [toPy, PyData.depth], by simp [toPy, PyData.canLay0]⟩
    | bl _ => exact ⟨rfl, by simp [toPy, PyData.depth], by simp [toPy, PyData.canLay0]⟩
    | int _ => exact ⟨rfl, by simp [toPy, PyData.depth], by simp [toPy, PyData.canLay0]⟩
    | str s =>
      have hs : PyData.strOk s = true := h
      exact ⟨rfl, by simp [toPy, PyData.depth], by simp [toPy, PyData.canLay0, hs]⟩
    | obj _ _ => cases h
    | scr _ => cases h
    | lst xs =>
      obtain ⟨a1, a2, a3⟩ := fines_plain (fine_plain n) xs (List.all_eq_true.1 (by unfold fine at h; exact h))
      exact ⟨by simp [plainD, a1], by simp [toPy, PyData.depth]; omega, by simp [toPy, PyData.canLay0, a3]⟩
    | tup xs =>
      obtain ⟨a1, a2, a3⟩ := fines_plain (fine_plain n) xs (List.all_eq_true.1 (by unfold fine at h; exact h))
      exact ⟨by simp [plainD, a1], by simp [toPy, PyData.depth]; omega, by simp [toPy, PyData.canLay0, a3]⟩
theorem fine_okQ {n : Nat} {d : D} (h : fine n d = true) (hn : n ≤ 64) : okQ d = true := by
  obtain ⟨a1, a2, a3⟩ := fine_plain n d h
  unfold okQ SeqAt.shaped
  rw [a1, a3, decide_eq_true (by omega : (toPy d).depth ≤ 64)]
  rfl
theorem good_mem {n : Nat} {xs : List D} (h : good (n + 1) (.lst xs) = true) : xs.length ≤ 1000000 ∧ ∀ x ∈ xs, good n x = true := by
  unfold good at h
  rw [Bool.and_eq_true] at h
  exact ⟨of_decide_eq_true h.1, List.all_eq_true.1 h.2⟩
theorem good_lst {n : Nat} {xs : List D} (h : xs.length ≤ 1000000) (hx : ∀ x ∈ xs, good n x = true) : good (n + 1) (.lst xs) = true := by
  unfold good
  rw [decide_eq_true h, List.all_eq_true.2 hx]
  rfl
theorem good_tup {n : Nat} {xs : List D} (h : xs.length ≤ 1000000) (hx : ∀ x ∈ xs, good n x = true) : good (n + 1) (.tup xs) = true := by
  unfold good
  rw [decide_eq_true h, List.all_eq_true.2 hx]
  rfl
theorem zip_self {xs : List D} {d : D} (h : d ∈ zipD xs xs) : ∃ x ∈ xs, d = .tup [x, x] := by
  obtain ⟨i, hi, e⟩ := List.getElem_of_mem h
  obtain ⟨x, y, e1, e2, e3⟩ := zip_get (List.getElem?_eq_some_iff.2 ⟨hi, e⟩)
  rw [e1] at e2; cases e2
  exact ⟨x, List.mem_of_getElem? e1, e3⟩
theorem zip_self_len (xs : List D) : (zipD xs xs).length = xs.length := by
  unfold zipD
  rw [List.length_map, List.length_zip, Nat.min_self]
theorem map_yes (xs : List D) (y : D) : (xs.map fun _ => y) = List.replicate xs.length y := List.map_const' ..
mutual
/-- the very same data (never said of objects) -/
def eqb : D → D → Bool
  | .non, .non => true
  | .bl a, .bl b => a == b
  | .int i, .int j => i == j
  | .str x, .str y => x == y
  | .lst xs, .lst ys => eqbs xs ys
  | .tup xs, .tup ys => eqbs xs ys
  | _, _ => false
def eqbs : List D → List D → Bool
  | [], [] => true
  | x :: xs, y :: ys => eqb x y && eqbs xs ys
  | _, _ => false
end
mutual
theorem eqb_eq : ∀ x y : D, eqb x y = true → x = y
  | .non, y, h => by cases y <;> first | rfl | cases h
  | .bl a, y, h => by cases y <;> first | (simp [eqb] at h; rw [h]) | cases h
  | .int a, y, h => by cases y <;> first | (simp [eqb] at h; rw [h]) | cases h
  | .str a, y, h => by cases y <;> first | (simp [eqb] at h; rw [h]) | cases h
  | .lst xs, y, h => by
    cases y with
    | lst ys => rw [eqbs_eq xs ys (by rw [← h, eqb])]
    | _ => cases h
  | .tup xs, y, h => by
    cases y with
    | tup ys => rw [eqbs_eq xs ys (by rw [← h, eqb])]
    | _ => cases h
  | .obj _ _, y, h => by cases y <;> cases h
  | .scr _, y, h => by cases y <;> cases h
theorem eqbs_eq : ∀ xs ys : List D, eqbs xs ys = true → xs = ys
  | [], [], _ => rfl
  | [], _ :: _, h => by cases h
  | _ :: _, [], h => by cases h
  | x :: xs, y :: ys, h => by
    rw [eqbs, Bool.and_eq_true] at h
    rw [eqb_eq x y h.1, eqbs_eq xs ys h.2]
end
def resIs : Res → D → Bool
  | .ok x, d => eqb x d
  | _, _ => false
theorem resIs_of {r : Res} {d : D} (h : resIs r d = true) : r = .ok d := by
  unfold resIs at h
  split at h
  · rw [eqb_eq _ _ h]
  · cases h
end Lq
namespace Lq
open PySem
/-! ### joined texts, sorted texts -/
theorem sum_len {c : Nat} : ∀ ws : List Str, (∀ w ∈ ws, w.length ≤ c) → (ws.map (·.length)).sum ≤ ws.length * c
  | [], _ => Nat.zero_le _
  | w :: r, h => by
    have h1 := sum_len r fun x hx => h x (List.mem_cons_of_mem _ hx)
    have h2 := h w List.mem_cons_self
    rw [List.map_cons, List.sum_cons, List.length_cons, Nat.add_mul, Nat.one_mul]
    omega
/-- words that may be joined: not too long, not too many -/
structure Wd (s : Nat) (ws : List Str) : Prop where
  few : ws.length ≤ 1000
  short : ∀ w ∈ ws, w.length ≤ 100
  free : ∀ w ∈ ws, s ∉ TL.tl w
  dash : ∀ w ∈ ws, w ≠ "-"
theorem Wd.room {s : Nat} {ws : List Str} (h : Wd s ws) {sep : Str} (hs : sep.length ≤ 10) : (ws.map (·.length)).sum + ws.length * sep.length ≤ 110000 := by
  have h1 := sum_len ws h.short
  have h2 : ws.length * sep.length ≤ 1000 * 10 := Nat.mul_le_mul h.few hs
  have h3 := h.few
  omega
theorem Wd.join_lst {s : Nat} {ws : List Str} (h : Wd s ws) {sep : Str} (hs : sep.length ≤ 10) : joinD sep [.lst (ws.map D.str)] = some (.str (Txt.join sep ws)) := by
  have := h.room hs
  rw [joinD]
  simp only [D.items?, allOf_map_str]
  rw [decide_eq_true (by omega : (ws.map (·.length)).sum + ws.length * sep.length ≤ 16777216), if_pos rfl]
theorem Wd.join_tup {s : Nat} {ws : List Str} (h : Wd s ws) {sep : Str} (hs : sep.length ≤ 10) : joinD sep [.tup (ws.map D.str)] = some (.str (Txt.join sep ws)) := by
  have := h.room hs
  rw [joinD]
  simp only [D.items?, allOf_map_str]
  rw [decide_eq_true (by omega : (ws.map (·.length)).sum + ws.length * sep.length ≤ 16777216), if_pos rfl]
theorem Wd.split {s : Nat} {ws : List Str} (h : Wd s ws) {sep : Str} {S : List Nat} (hs : sep.length ≤ 10) (ey : TL.tl sep = s :: S) (hk : sep.cps.all (· < 256) = true) (hn : ws ≠ []) : Txt.split (Txt.join sep ws) sep = ws :=
  TL.split_join ey hk hn h.free
theorem Wd.fits {s : Nat} {ws : List Str} (h : Wd s ws) {sep : Str} (hs : sep.length ≤ 10) : Lq.fits (Txt.join sep ws).length = true := by
  have h1 := h.room hs
  have h2 := StrLaws.join_length_le sep ws
  rw [← TL.join_eq] at h2
  exact fits_of (by omega)
theorem Wd.splitD {s : Nat} {ws : List Str} (h : Wd s ws) {sep : Str} {S : List Nat} (hs : sep.length ≤ 10) (ey : TL.tl sep = s :: S) (hk : sep.cps.all (· < 256) = true) (hn : ws ≠ []) : Lq.splitD (Txt.join sep ws) [.str sep] = some (.lst (ws.map D.str)) := by
  have h0 : (sep.length == 0) = false := by rw [TL.len_tl, ey]; rfl
  rw [Lq.splitD, h.fits hs, h.split hs ey hk hn, h0]
  rfl
theorem Wd.ne_dash {s : Nat} {ws : List Str} (h : Wd s ws) {sep : Str} {S : List Nat} (hs : sep.length ≤ 10) (ey : TL.tl sep = s :: S) (hk : sep.cps.all (· < 256) = true) (hn : ws ≠ []) (hd : Txt.split "-" sep = [("-" : Str)]) : Txt.join sep ws ≠ "-" := fun q => by
  have e := h.split hs ey hk hn
  rw [q, hd] at e
  exact h.dash "-" (by rw [← e]; exact List.mem_singleton.2 rfl) rfl
def LtS (x y : Str) : Prop := x.cps.toList < y.cps.toList
theorem insS_mem {x z : Str} : ∀ {r : List Str}, z ∈ insS x r ↔ z = x ∨ z ∈ r
  | [] => by simp [insS]
  | y :: r => by
    rw [insS]
    split
    · rw [List.mem_cons, insS_mem (r := r), List.mem_cons]
      constructor
      · rintro (h | h | h)
        · exact .inr (.inl h)
        · exact .inl h
        · exact .inr (.inr h)
      · rintro (h | h | h)
        · exact .inr (.inl h)
        · exact .inl h
        · exact .inr (.inr h)
    · rw [List.mem_cons]
theorem sortStrs_mem {z : Str} : ∀ {r : List Str}, z ∈ sortStrs r ↔ z ∈ r
  | [] => by simp [sortStrs]
  | y :: r => by rw [sortStrs, insS_mem, sortStrs_mem (r := r), List.mem_cons]
theorem insS_len {x : Str} : ∀ {r : List Str}, (insS x r).length = r.length + 1
  | [] => rfl
  | y :: r => by
    rw [insS]
    split
    · rw [List.length_cons, insS_len (r := r), List.length_cons]
    · rfl
theorem sortStrs_len : ∀ {r : List Str}, (sortStrs r).length = r.length
  | [] => rfl
  | y :: r => by rw [sortStrs, insS_len, sortStrs_len (r := r), List.length_cons]
theorem ltS_tri {x y : Str} (h : ¬ LtS y x) (hn : x ≠ y) : LtS x y := by
  unfold LtS at *
  refine Classical.byContradiction fun q => hn ?_
  have e : x.cps.toList = y.cps.toList := List.le_antisymm (List.not_lt.1 h) (List.not_lt.1 q)
  cases x; cases y; simp at e; rw [e]
theorem insS_up {x : Str} : ∀ {r : List Str}, r.Pairwise LtS → x ∉ r → (insS x r).Pairwise LtS
  | [], _, _ => by simp [insS]
  | y :: r, h, hn => by
    rw [List.pairwise_cons] at h
    rw [List.mem_cons, not_or] at hn
    rw [insS]
    split
    · rename_i q
      rw [List.pairwise_cons]
      refine ⟨fun z hz => ?_, insS_up h.2 hn.2⟩
      rcases insS_mem.1 hz with rfl | hz
      · show y.cps.toList < z.cps.toList; exact of_decide_eq_true q
      · exact h.1 z hz
    · rename_i q
      have hl : LtS x y := ltS_tri (fun w => q (decide_eq_true w)) hn.1
      rw [List.pairwise_cons]
      refine ⟨fun z hz => ?_, List.pairwise_cons.2 h⟩
      rcases List.mem_cons.1 hz with rfl | hz
      · exact hl
      · exact List.lt_trans hl (h.1 z hz)
theorem sortStrs_up : ∀ {r : List Str}, r.Nodup → (sortStrs r).Pairwise LtS
  | [], _ => by simp [sortStrs]
  | x :: r, h => by
    rw [List.nodup_cons] at h
    rw [sortStrs]
    exact insS_up (sortStrs_up h.2) fun q => h.1 (sortStrs_mem.1 q)
theorem sorted_strs {ws : List Str} {x : D} (hx : x.items? = some (ws.map D.str)) : sortedF [x] = some ((sortStrs ws).map D.str) := by
  rw [sortedF]
  simp only [hx]
  unfold sortDs
  cases ws with
  | nil => rfl
  | cons w r =>
    have e : allOf D.int? ((w :: r).map D.str) = none := by rw [List.map_cons, allOf]; rfl
    rw [e, allOf_map_str]
/-- ys is drawn from xs without repeats -/
theorem drawn_strs {xs : List Str} : ∀ {ys : List D}, (∀ y ∈ ys, y ∈ xs.map D.str) → ∃ ws : List Str, ys = ws.map D.str ∧ ∀ w ∈ ws, w ∈ xs
  | [], _ => ⟨[], rfl, fun _ h => by cases h⟩
  | y :: r, h => by
    obtain ⟨ws, e, hw⟩ := drawn_strs (ys := r) fun z hz => h z (List.mem_cons_of_mem _ hz)
    obtain ⟨w, hw1, e1⟩ := List.mem_map.1 (h y List.mem_cons_self)
    refine ⟨w :: ws, by rw [List.map_cons, ← e, e1], fun z hz => ?_⟩
    rcases List.mem_cons.1 hz with rfl | hz
    · exact hw1
    · exact hw z hz
theorem nodup_map_str {ws : List Str} : (ws.map D.str).Nodup ↔ ws.Nodup := by
  unfold List.Nodup
  rw [List.pairwise_map]
  constructor
  · exact fun h => h.imp fun q e => q (by rw [e])
  · exact fun h => h.imp fun q e => q (by cases e; rfl)
theorem pick_strs {pool : List Str} {ys zs : List D} (hp : (ys ++ zs).Perm (pool.map D.str)) (hn : pool.Nodup) : ∃ ws : List Str, ys = ws.map D.str ∧ (∀ w ∈ ws, w ∈ pool) ∧ ws.Nodup := by
  obtain ⟨ws, e, hw⟩ := drawn_strs (xs := pool) (ys := ys) fun y hy => hp.subset (List.mem_append_left _ hy)
  have h1 : (ys ++ zs).Nodup := hp.nodup_iff.2 (nodup_map_str.2 hn)
  have h2 : ys.Nodup := (List.nodup_append.1 h1).1
  rw [e] at h2
  exact ⟨ws, e, hw, nodup_map_str.1 h2⟩
end Lq
namespace Lq
open PySem PySem.Spec PyProof.Rows L2
/-! ### an error that is caught and kept behind its suite: from the suite on it is an object like others -/
section
variable {X : Cx} {pins : List (Addr × Obj)} {σ : L2.St} {H : Hp} {s : Shared}
theorem exK_ok {P : Program} {w : World} {H : Hp} {h : Heap} {C d a : Addr} {oe : Obj} {vs : Array Value} (e : h.get? a = some oe) (z : Zc (.ref C) (some d) oe) (hd : oe.data = .fields vs) : ObjOk P w H h a (ExK C d a) :=
  ⟨⟨oe, vs, e, z, hd⟩, ⟨oe, e⟩, fun _ _ ⟨o, v, q, r⟩ k => ⟨o, v, k o q, r⟩⟩
/-- an object that no one knew is known from now on -/
theorem inv_know {a : Addr} {o : HO} (I : Inv X pins σ H s) (n0 : X.s_0.heap.get? a = none) (na : H a = none) (nL : a ≠ X.env.locals) (nC : ∀ x c, X.env.cells.lookup x = some c → c ≠ a) (nP : ∀ p ∈ X.pn ++ pins, p.1 ≠ a) (new : ObjOk X.prog X.w (upd H a o) s.heap a o) :
    Inv X pins σ (upd H a o) s where
  ok := I.ok
  os := I.os
  bare := I.bare
  base := {
    keep := I.base.keep
    slot := I.base.slot
    free := fun b u q n hx => (upd_ne (fun z => by rw [z, n0] at q; cases q)).trans (I.base.free b u q n hx)
    there := I.base.there
    tups := fun b xs q => have z := I.base.tups b xs q; (upd_ne (ne_of_none z na)).trans z
    frzs := fun b u xs q => have z := I.base.frzs b u xs q; (upd_ne (ne_of_none z na)).trans z
    tbls := fun b ps q => have ⟨m, z⟩ := I.base.tbls b ps q; ⟨m, (upd_ne (ne_of_none z na)).trans z⟩ }
  loc := I.loc
  cell := I.cell
  free := (upd_ne (Ne.symm nL)).trans I.free
  freeC := fun x c e => (upd_ne (nC x c e)).trans (I.freeC x c e)
  pin := fun p hp => have ⟨h1, h2, h3⟩ := I.pin p hp; ⟨h1, (upd_ne (nP p hp)).trans h2, h3⟩
  hok := I.hok.laidN (fun _ _ q => q) na new
  len := I.len
theorem inv_in (I : Inv X pins σ H s) (a : Addr) : Inv (X.suite a (X.pn ++ pins)) [] σ H s where
  ok := I.ok.suite _ _
  os := I.os
  bare := I.bare
  base := I.base
  loc := I.loc
  cell := I.cell
  free := I.free
  freeC := I.freeC
  pin := fun p hp => I.pin p (by simpa using hp)
  hok := I.hok
  len := I.len
theorem inv_out {a : Addr} {qs : List (Addr × Obj)} (I : Inv (X.suite a (X.pn ++ pins)) qs σ H s) (ok : X.Ok) : Inv X pins σ H s where
  ok := ok
  os := I.os
  bare := I.bare
  base := I.base
  loc := I.loc
  cell := I.cell
  free := I.free
  freeC := I.freeC
  pin := fun p hp => I.pin p (List.mem_append.mpr (Or.inl hp))
  hok := I.hok
  len := I.len
/-- an error a in flight at the frame of X; s0: what stood before it was made -/
structure Down (X : Cx) (pins : List (Addr × Obj)) (σ : L2.St) (H : Hp) (a : Addr) (cls : Value) (d : Option Addr) (B : Heap) (s0 s : Shared) : Prop where
  inv : Inv X pins σ H s0
  gr : ∀ b o, s0.heap.get? b = some o → b ∉ frs X.stack → B.get? b = some o
  up : s0.heap.UpToSlots s.heap
  no : H a = none
  os : s.os = s0.os
  bare : AllBare s.gens
  fly : HandSPX.FlyingZ B X.stack a (Zc cls d) s.heap
variable {a : Addr} {cls : Value} {d : Option Addr} {B : Heap} {s0 : Shared}
theorem Down.here (w : Down X pins σ H a cls d B s0 s) : Inv X pins σ H s := Inv.landed w.inv w.gr w.fly.1 w.up w.os w.bare
theorem Down.obj (w : Down X pins σ H a cls d B s0 s) : ∃ oe vs, s.heap.get? a = some oe ∧ Zc cls d oe ∧ oe.data = .fields vs := HandSPX.FlyingZ.there w.fly
theorem Down.off (w : Down X pins σ H a cls d B s0 s) : a ∉ frs X.stack := fun m => by
  obtain ⟨oe, vs, e, _, q⟩ := w.obj
  obtain ⟨_, o, e', no⟩ := w.fly.2.2.1.mem m
  cases e.symm.trans e'
  exact no vs q
theorem Down.new (w : Down X pins σ H a cls d B s0 s) : s0.heap.get? a = none := by
  cases e : s0.heap.get? a with
  | none => rfl
  | some o => cases (w.gr a o e w.off).symm.trans w.fly.2.1
theorem Down.known {C dd : Addr} (w : Down X pins σ H a (.ref C) (some dd) B s0 s) (hs : X.stack = X.env :: X.outer) (hf : X.env.frame = some X.env.locals) (hex : X.ex = []) : Inv X pins σ (upd H a (ExK C dd a)) s := by
  obtain ⟨oe, vs, e, z, q⟩ := w.obj
  refine inv_know w.here ?_ w.no (fun y => w.off ?_) (fun x c ec y => ?_) (fun p hp y => ?_) (exK_ok e z q)
  · cases e0 : X.s_0.heap.get? a with
    | none => rfl
    | some o =>
      obtain ⟨o', z'⟩ := w.inv.base.there a o e0 (hex ▸ List.not_mem_nil)
      cases w.new.symm.trans z'
  · rw [hs, y]
    exact List.mem_filterMap.mpr ⟨_, List.mem_cons_self, hf⟩
  · obtain ⟨v, o, e1, _⟩ := w.inv.cell x c ec
    rw [y] at e1
    cases w.new.symm.trans e1
  · have e1 := (w.inv.pin p hp).1
    rw [y] at e1
    cases w.new.symm.trans e1
/-- the clause's name goes when its suite has ended -/
theorem suite_end {M : Model} {n : Str} {i : Nat} {pos : Pos} {D : Ends} {f : Flow} {s6 : Shared} (ok : X.Ok) (hN : X.N.Nodup) (hi : X.N[i]? = some n) (hl : X.env.kindOf n = some .local)
    (h : SP (X.suite a (X.pn ++ pins)) [] { nx := fun σ' H' => D.nx (σ'.set i none) H', rt := D.rt, bk := fun σ' H' => D.bk (σ'.set i none) H', ct := fun σ' H' => D.ct (σ'.set i none) H' } f s6) :
    wpAny M X.A (do bindName X.env n .none; unbindBehindTheSuite X.env n pos) (fun _ s7 => SP X pins D f s7) X.xe s6 := by
  cases f with
  | ret u => obtain ⟨v, σ', H', J, r, q⟩ := h; exact gone_ok (inv_out J ok) hN hi hl fun _ I => ⟨v, _, H', I, r, q⟩
  | next => obtain ⟨σ', H', J, q⟩ := h; exact gone_ok (inv_out J ok) hN hi hl fun _ I => ⟨_, H', I, q⟩
  | brk => obtain ⟨σ', H', J, q⟩ := h; exact gone_ok (inv_out J ok) hN hi hl fun _ I => ⟨_, H', I, q⟩
  | cont => obtain ⟨σ', H', J, q⟩ := h; exact gone_ok (inv_out J ok) hN hi hl fun _ I => ⟨_, H', I, q⟩
theorem body_end {pn : List (Addr × Obj)} {xe : Value → Shared → Prop} {D : Ends} {f : Flow} {s1 : Shared} (ok : X.Ok) (h : SP (X.tr (X.pn ++ pins) xe) [] D f s1) : SP X pins D f s1 := by
  cases f with
  | ret u => obtain ⟨v, σ', H', J, r⟩ := h; exact ⟨v, σ', H', J.ofTry ok, r⟩
  | next => obtain ⟨σ', H', J, q⟩ := h; exact ⟨σ', H', J.ofTry ok, q⟩
  | brk => obtain ⟨σ', H', J, q⟩ := h; exact ⟨σ', H', J.ofTry ok, q⟩
  | cont => obtain ⟨σ', H', J, q⟩ := h; exact ⟨σ', H', J.ofTry ok, q⟩
end
/-- what the clause wishes of an error of its body -/
def wKeep (K : PySem.W.Frag) (c : Value) (i : Nat) (ts : TS) (Wout : WX) (D : Ends) : WX := fun cls d σ H =>
  ∃ b, PySem.W.exmOne K cls c = some b ∧ (b = false → Wout cls d σ H) ∧ (b = true → ∃ C dd, cls = .ref C ∧ d = some dd ∧ ∀ a, H a = none →
    ts { nx := fun σ' H' => D.nx (σ'.set i none) H', rt := D.rt, bk := fun σ' H' => D.bk (σ'.set i none) H', ct := fun σ' H' => D.ct (σ'.set i none) H' } (σ.set i (some (.ref a))) (upd H a (ExK C dd a)))
section
variable {X : Cx} {pins : List (Addr × Obj)} {σ : L2.St} {H : Hp} {a : Addr} {cls : Value} {d : Option Addr} {B : Heap} {s0 s : Shared} {x n : Str} {c : Value} {i : Nat} {body suite : List Stmt} {b₀ : Stmt} {np pos pos' : Pos} {tb : WX → TS} {ts : TS} {Wout : WX} {D : Ends}
theorem Down.names (w : Down X pins σ H a cls d B s0 s) (hc : Names X x c) {Q : Value → Shared → Prop} {E : Value → Shared → Prop} (q : Q c s) : wpAny (model X.prog X.w) (X.A.mark (some (.ref a))) (eval (.Name x np) X.env) Q E s :=
  match hc with
  | ⟨hg, hd, .inl hm⟩ => ld_glob (X := X.suite a (X.pn ++ pins)) (inv_in w.here a) hg hm q hd
  | ⟨hg, hd, .inr ⟨hm, hv, hn⟩⟩ => ld_blt (X := X.suite a (X.pn ++ pins)) (inv_in w.here a) hg hm hv q hn hd
theorem Down.clause (w : Down X pins σ H a cls d B s0 s) (hs : X.stack = X.env :: X.outer) (hf : X.env.frame = some X.env.locals) (hex : X.ex = []) (hN : X.N.Nodup) (hi : X.N[i]? = some n) (hl : X.env.kindOf n = some .local) (hc : Names X x c) (tk : Takes X Wout)
    (hsu : ∀ (a : Addr) (pn : List (Addr × Obj)), PSs (X.suite a pn) (b₀ :: suite) ts) (hw : wKeep X.K c i ts Wout D cls d σ H) :
    wpAny (model X.prog X.w) X.A (handleBy (.ref a) X.env [.ExceptHandler (some (.Name x np)) (some n) (b₀ :: suite) pos']) (SP X pins D) X.xe s := by
  obtain ⟨b, hb, hno, hyes⟩ := hw
  have lk := PySem.W.exm_one (M := model X.prog X.w) (e := a) w.here.kIn (by
    obtain ⟨oe, vs, e, z, _⟩ := w.obj
    exact fun A Q E s k q => wpAny_typeOf_ref (k _ _ e) (z.1.symm ▸ q)) hb
  refine wpAny_handleBy_cons (codeAny_handlers_test (w.names hc (lk.here ?_))) (fun q => nomatch q)
  cases b with
  | true =>
    obtain ⟨C, dd, rfl, rfl, hy⟩ := hyes rfl
    refine codeAny_handlers_suite_as (HandSPX.lands_againZ w.fly fun h fl up => ?_)
    have w' : Down X pins σ H a (.ref C) (some dd) B s0 { s with heap := h } := ⟨w.inv, w.gr, w.up.trans up, w.no, w.os, w.bare, fl⟩
    refine store_ok (X := X.suite a (X.pn ++ pins)) (v := .ref a) (inv_in (w'.known hs hf hex) a) hN hi (Or.inl hl) rfl (fun s5 I5 => ?_) (Or.inr hl)
    exact wpAny_mono ((hsu a (X.pn ++ pins)).run [] s5 _ _ _ I5 (hy a w.no)) (fun f s6 q => suite_end w.inv.ok hN hi hl q) fun _ _ z => z.elim
  | false =>
    show wpAny _ X.A (handleBy (.ref a) X.env []) _ _ _
    have out : wpAny (model X.prog X.w) X.A (setFlight (.ref a) X.env.frame) (fun _ s4 => wpAny (model X.prog X.w) X.A (throw (.ref a) : Sem Flow) (SP X pins D) X.xe s4) X.xe s := by
      rw [hf]
      exact HandSPX.setFlight_upZ w.fly fun h hh up => wpAny_throw (tk _ _ ⟨a, B, s0, pins, σ, H, cls, d, rfl, w.inv, w.gr, w.up.trans up, Or.inr (Or.inr hh), w.no, w.os, w.bare, hno rfl⟩)
    obtain ⟨_, _, _, oe, vs, t, _, _, e, _, q, e1, _⟩ := id w.fly
    refine wpAny_handleBy_nil ?_
    unfold PySem.passOn
    refine wpAny_bind (wpAny_field e q e1 ?_)
    have hn : (Value.ref t == Value.none) = false := by simp
    rw [hn]
    first
      | exact wpAny_bind out
      | exact wpAny_bind (wpAny_pure (wpAny_bind out))
theorem ps_keep (hs : X.stack = X.env :: X.outer) (hf : X.env.frame = some X.env.locals) (hex : X.ex = []) (hN : X.N.Nodup) (hi : X.N[i]? = some n) (hl : X.env.kindOf n = some .local) (hc : Names X x c) (tk : Takes X Wout)
    (hb : ∀ (W : WX) (pn : List (Addr × Obj)) (xe : Value → Shared → Prop), Takes (X.tr pn xe) W → PassesOwn (model X.prog X.w) X.A X.env xe → PSs (X.tr pn xe) body (tb W))
    (hsu : ∀ (a : Addr) (pn : List (Addr × Obj)), PSs (X.suite a pn) (b₀ :: suite) ts) :
    PS X (.Try body [.ExceptHandler (some (.Name x np)) (some n) (b₀ :: suite) pos'] [] [] pos) (fun D σ H => tb (wKeep X.K c i ts Wout D) D σ H) := by
  refine ⟨fun pins s σ H D I h => wpAny_Try_except (wpAny_mono ((hb _ (X.pn ++ pins) _ ?_ PassesOwn.looking).run [] s σ H D (I.toTry _) h) (fun f s1 q => ?_) fun _ _ q => q)⟩
  · rintro u s' ⟨a, B, s0, pins', σ', H', cls, d, rfl, J, gr, up, sky, na, os, ag, hw⟩
    refine Sky.land Zc.steady (by rw [I.ok.frames, hs]) hf (hs ▸ sky) fun h fl up2 => ?_
    exact Down.clause (pins := pins) ⟨J.ofTry I.ok, gr, up.trans up2, na, os, ag, hs.symm ▸ fl⟩ hs hf hex hN hi hl hc tk hsu hw
  · have e := body_end (pn := X.pn) I.ok q
    cases f with
    | next => exact wpAny_execs_nil e
    | _ => exact e
end
end Lq
namespace Lq
open PySem PySem.Spec PyProof.Rows L2
/-! ### several clauses -/
def PH (X : Cx) (hs : List ExceptHandler) (w : Ends → WX) : Prop := ∀ (pins : List (Addr × Obj)) (σ : L2.St) (H : Hp) (a : Addr) (cls : Value) (d : Option Addr) (B : Heap) (s0 s : Shared) (De : Ends),
  Down X pins σ H a cls d B s0 s → w De cls d σ H → wpAny (model X.prog X.w) X.A (handleBy (.ref a) X.env hs) (SP X pins De) X.xe s
section
variable {X : Cx} {x n : Str} {c : Value} {i : Nat} {body suite : List Stmt} {b₀ : Stmt} {h₀ : ExceptHandler} {hs : List ExceptHandler} {np pos pos' : Pos} {tb : WX → TS} {ts : TS} {Wout : WX} {w : Ends → WX}
theorem ph_nil (hst : X.stack = X.env :: X.outer) (hf : X.env.frame = some X.env.locals) (tk : Takes X Wout) : PH X [] (fun _ => Wout) := by
  intro pins σ H a cls d B s0 s De w hno
  have out : wpAny (model X.prog X.w) X.A (setFlight (.ref a) X.env.frame) (fun _ s4 => wpAny (model X.prog X.w) X.A (throw (.ref a) : Sem Flow) (SP X pins De) X.xe s4) X.xe s := by
    rw [hf]
    exact HandSPX.setFlight_upZ w.fly fun h hh up => wpAny_throw (tk _ _ ⟨a, B, s0, pins, σ, H, cls, d, rfl, w.inv, w.gr, w.up.trans up, Or.inr (Or.inr hh), w.no, w.os, w.bare, hno⟩)
  obtain ⟨_, _, _, oe, vs, t, _, _, e, _, q, e1, _⟩ := id w.fly
  refine wpAny_handleBy_nil ?_
  unfold PySem.passOn
  refine wpAny_bind (wpAny_field e q e1 ?_)
  have hn : (Value.ref t == Value.none) = false := by simp
  rw [hn]
  first
    | exact wpAny_bind out
    | exact wpAny_bind (wpAny_pure (wpAny_bind out))
/-- what the clause and those behind it wish of an error of the body -/
def wClause (K : PySem.W.Frag) (c : Value) (i : Nat) (ts : TS) (w : Ends → WX) (D : Ends) : WX := fun cls d σ H =>
  ∃ b, PySem.W.exmOne K cls c = some b ∧ (b = false → w D cls d σ H) ∧ (b = true → ∃ C dd, cls = .ref C ∧ d = some dd ∧ ∀ a, H a = none →
    ts { nx := fun σ' H' => D.nx (σ'.set i none) H', rt := D.rt, bk := fun σ' H' => D.bk (σ'.set i none) H', ct := fun σ' H' => D.ct (σ'.set i none) H' } (σ.set i (some (.ref a))) (upd H a (ExK C dd a)))
theorem ph_as (hst : X.stack = X.env :: X.outer) (hf : X.env.frame = some X.env.locals) (hex : X.ex = []) (hN : X.N.Nodup) (hi : X.N[i]? = some n) (hl : X.env.kindOf n = some .local) (hc : Names X x c)
    (hsu : ∀ (a : Addr) (pn : List (Addr × Obj)), PSs (X.suite a pn) (b₀ :: suite) ts) (hr : PH X hs w) : PH X (.ExceptHandler (some (.Name x np)) (some n) (b₀ :: suite) pos' :: hs) (wClause X.K c i ts w) := by
  intro pins σ H a cls d B s0 s De w hw
  obtain ⟨b, hb, hno, hyes⟩ := hw
  have lk := PySem.W.exm_one (M := model X.prog X.w) (e := a) w.here.kIn (by
    obtain ⟨oe, vs, e, z, _⟩ := w.obj
    exact fun A Q E s k q => wpAny_typeOf_ref (k _ _ e) (z.1.symm ▸ q)) hb
  refine wpAny_handleBy_cons (codeAny_handlers_test (w.names hc (lk.here ?_))) (fun q => nomatch q)
  cases b with
  | true =>
    obtain ⟨C, dd, rfl, rfl, hy⟩ := hyes rfl
    refine codeAny_handlers_suite_as (HandSPX.lands_againZ w.fly fun h fl up => ?_)
    have w' : Down X pins σ H a (.ref C) (some dd) B s0 { s with heap := h } := ⟨w.inv, w.gr, w.up.trans up, w.no, w.os, w.bare, fl⟩
    refine store_ok (X := X.suite a (X.pn ++ pins)) (v := .ref a) (inv_in (w'.known hst hf hex) a) hN hi (Or.inl hl) rfl (fun s5 I5 => ?_) (Or.inr hl)
    exact wpAny_mono ((hsu a (X.pn ++ pins)).run [] s5 _ _ _ I5 (hy a w.no)) (fun f s6 q => suite_end w.inv.ok hN hi hl q) fun _ _ z => z.elim
  | false =>
    exact hr pins σ H a cls d B s0 s De w (hno rfl)
theorem ps_tryH (hst : X.stack = X.env :: X.outer) (hf : X.env.frame = some X.env.locals)
    (hb : ∀ (W : WX) (pn : List (Addr × Obj)) (xe : Value → Shared → Prop), Takes (X.tr pn xe) W → PassesOwn (model X.prog X.w) X.A X.env xe → PSs (X.tr pn xe) body (tb W)) (hh : PH X (h₀ :: hs) w) :
    PS X (.Try body (h₀ :: hs) [] [] pos) (fun D σ H => tb (w D) D σ H) := by
  refine ⟨fun pins s σ H D I h => wpAny_Try_except (wpAny_mono ((hb _ (X.pn ++ pins) _ ?_ PassesOwn.looking).run [] s σ H D (I.toTry _) h) (fun f s1 q => ?_) fun _ _ q => q)⟩
  · rintro u s' ⟨a, B, s0, pins', σ', H', cls, d, rfl, J, gr, up, sky, na, os, ag, hw⟩
    refine Sky.land Zc.steady (by rw [I.ok.frames, hst]) hf (hst ▸ sky) fun h fl up2 => ?_
    exact hh pins σ' H' a cls d B s0 _ D ⟨J.ofTry I.ok, gr, up.trans up2, na, os, ag, hst.symm ▸ fl⟩ hw
  · have e := body_end (pn := X.pn) I.ok q
    cases f with
    | next => exact wpAny_execs_nil e
    | _ => exact e
end
/-! ### over plain data -/
def goneS (i : Nat) : O → O
  | .nx ρ => .nx (ρ.set i .no)
  | .bk ρ => .bk (ρ.set i .no)
  | .ct ρ => .ct (ρ.set i .no)
  | .err _ _ => .bad
  | r => r
def hNil : Xn → Rho → O := fun x ρ => .err x ρ
def hAs (ex : List (Nat × Bool)) (i : Nat) (g : Rho → O) (rest : Xn → Rho → O) : Xn → Rho → O := fun x ρ => match ex.lookup x.t with
  | some true => if isEx x.t then goneS i (g (ρ.set i (.d (.obj x.t x.fs)))) else .bad
  | some false => rest x ρ
  | none => .bad
def tryS (g : Rho → O) (h : Xn → Rho → O) : Rho → O := fun ρ => match g ρ with
  | .err x ρ1 => h x ρ1
  | r => r
def XH (X : Cx) (T : Tb) (W : WX) (hs : List ExceptHandler) (h : Xn → Rho → O) : Prop := PH X hs fun De cls d σ H => ∃ β G S ρ x, Ok X.K T β G S σ ρ H ∧ XR X.K T S x cls d ∧ PostS X.K T W β G S (h x ρ) De
theorem PH.impQ {X : Cx} {hs : List ExceptHandler} {w w' : Ends → WX} (h : PH X hs w) (i : ∀ De c d σ H, w' De c d σ H → w De c d σ H) : PH X hs w' := fun pins σ H a cls d B s0 s De dn q => h pins σ H a cls d B s0 s De dn (i De cls d σ H q)
section
variable {X : Cx} {T : Tb} {W : WX} {x n : Str} {c : Value} {i : Nat} {body suite : List Stmt} {b₀ : Stmt} {h₀ : ExceptHandler} {hs : List ExceptHandler} {np pos pos' : Pos} {g : Rho → O} {h : Xn → Rho → O} {ex : List (Nat × Bool)}
theorem xh_nil (hst : X.stack = X.env :: X.outer) (hf : X.env.frame = some X.env.locals) (tk : Takes X W) : XH X T W [] hNil := (ph_nil hst hf tk).impQ fun De cls d σ H q => by
  obtain ⟨β, G, S, ρ, x, o, xr, p⟩ := q
  exact p S σ H cls d (Same.refl _) o xr
theorem xh_as (i : Nat) (hst : X.stack = X.env :: X.outer) (hf : X.env.frame = some X.env.locals) (hex : X.ex = []) (hN : X.N.Nodup) (hc : Names X x c) (hx : ∀ t b, ex.lookup t = some b → PySem.W.exmOne X.K (.ref (T t)) c = some b)
    (hsu : ∀ (a : Addr) (pn : List (Addr × Obj)), XB (X.suite a pn) T W0 (b₀ :: suite) g) (hr : XH X T W hs h) (hi : X.N[i]? = some n := by rfl) (hl : X.env.kindOf n = some .local := by rfl) : XH X T W (.ExceptHandler (some (.Name x np)) (some n) (b₀ :: suite) pos' :: hs) (hAs ex i g h) :=
  (ph_as (ts := rS X.K T W0 g) hst hf hex hN hi hl hc hsu hr).impQ fun De cls d σ H q => by
    obtain ⟨β, G, S, ρ, x, o, xr, p⟩ := q
    obtain ⟨rfl, dd, vs, rfl, hd, rps⟩ := xr
    unfold hAs at p
    cases hb : ex.lookup x.t with
    | none => rw [hb] at p; exact p.elim
    | some b =>
      refine ⟨b, hx _ _ hb, fun z => ?_, fun z => ?_⟩
      · subst z
        rw [hb] at p
        exact ⟨β, G, S, ρ, x, o, ⟨rfl, dd, vs, rfl, hd, rps⟩, p⟩
      · subst z
        rw [hb] at p
        dsimp only at p
        split at p
        case isFalse => exact p.elim
        case isTrue ie =>
        refine ⟨_, _, rfl, rfl, fun a ha => ?_⟩
        have e1 := Ext.new (S := S) (H := H) (p := a) (o := ExK (T x.t) dd a) o.sh ha
        have sn : Same S (upd S a (ExK (T x.t) dd a)) := same_new (o.sh.free ha)
        have o1 := (o.ext e1).setD (i := i) (x := .obj x.t x.fs) (v := .ref a) ⟨a, vs, rfl, .inl ⟨ie, dd, upd_same, sn _ _ hd⟩, Rps.mono sn _ _ rps⟩
        refine ⟨β, G, _, _, o1, ?_⟩
        have p1 := p.mono sn
        revert p1
        cases g (ρ.set i (.d (.obj x.t x.fs))) with
        | nx ρ1 => exact fun p1 S' σ' H' e o' => p1 S' _ H' e o'.setN
        | bk ρ1 => exact fun p1 S' σ' H' e o' => p1 S' _ H' e o'.setN
        | ct ρ1 => exact fun p1 S' σ' H' e o' => p1 S' _ H' e o'.setN
        | rt v ρ1 => exact fun p1 => p1
        | rf ds ρ1 => exact fun p1 => p1
        | err x ρ1 => exact fun p1 => p1.elim
        | bad => exact fun p1 => p1
theorem xs_try (hst : X.stack = X.env :: X.outer) (hf : X.env.frame = some X.env.locals)
    (hb : ∀ (W : WX) (pn : List (Addr × Obj)) (xe : Value → Shared → Prop), Takes (X.tr pn xe) W → PassesOwn (model X.prog X.w) X.A X.env xe → XB (X.tr pn xe) T W body g) (hh : XH X T W (h₀ :: hs) h) :
    XS X T W (.Try body (h₀ :: hs) [] [] pos) (tryS g h) := (ps_tryH (tb := fun W => rS X.K T W g) hst hf hb hh).impQ fun De σ H q => by
  obtain ⟨β, G, S, ρ, o, p⟩ := q
  refine ⟨β, G, S, ρ, o, ?_⟩
  unfold tryS at p
  revert p
  cases g ρ with
  | err x ρ1 => exact fun p S' σ' H' c d e o' xr => ⟨β, G, S', ρ1, x, o', xr, p.mono e⟩
  | nx ρ1 => exact fun p => p
  | bk ρ1 => exact fun p => p
  | ct ρ1 => exact fun p => p
  | rt v ρ1 => exact fun p => p
  | rf ds ρ1 => exact fun p => p
  | bad => exact fun p => p
end
end Lq
namespace Lq
open PySem PySem.Spec PyProof.Rows L2
/-! ### an own error is made: by any arguments that the call has -/
section
variable {X : Cx} {p pos : Pos} {e : Expr} {es : List Expr}
/-- the call itself, behind the arguments -/
theorem mk_called {x : Str} {C fI : Addr} {k : Nat} {fd : FuncData} {ps : List Str} {sp : Sp} (T : OexC X.K C) (iC : PySem.W.findIn X.K (.ref C) "__init__" = some (some (.ref fI))) (tI : PySem.W.typeIn X.K (.ref fI) = some (.type "function"))
    (F1 : FnOk X.prog X.w X.K X.mg X.base (L2.CX X.prog X.w) k fI fd ps sp) (hr : Room (k + 1) X.A) (hb : Binds X.K fd ps []) {pins : List (Addr × Obj)} {σ : L2.St} {H1 : Hp} {s1 : Shared} {us : List Value} {vs : List V} {Q : L2.XK} (I1 : Inv X pins σ H1 s1) (r1 : Vals vs us) (hz : vs.length ≤ 1000)
    (q1 : ∀ a, H1 a = none → sp (.ref a :: vs) (upd H1 a (exo a C none)) (fun v H2 => v = .non ∧ ∃ (d : Addr) (fs : List (Str × V)), H2 a = some (exo a C (some d)) ∧ H2 d = some (exd d fs) ∧ H1 d = none ∧ Q (.ref C) (some d) (upd (L2.del H2 a) d (.xd fs))) (fun _ _ _ => False)) :
    wpAny (model X.prog X.w) X.A (call (.ref C) us) (MkP X pins σ Q) X.xe s1 := by
  obtain ⟨nm, q, N, bs, bm, sn, sub, ab, col, dd, k0, k1, k2, k3, k5, hC, hbm⟩ := T.cls
  obtain ⟨hp, g, dr, tk, os⟩ := s1
  have hsz : hp.objs.size ≤ hp.objs.size + 1 := Nat.le_succ _
  have hn : H1 (hp.objs.size + 1) = none := I1.hok.fresh hsz
  have hq := q1 (hp.objs.size + 1) hn
  have kk : ∀ b o, hp.get? b = some o → ((hp.push (PySem.W.kdv_tup us)).push (PySem.HandSPX.excO C hp.objs.size)).get? b = some o := fun b o e => Heap.get?_push_of_some _ (Heap.get?_push_of_some _ e)
  have hget : ((hp.push (PySem.W.kdv_tup us)).push (PySem.HandSPX.excO C hp.objs.size)).get? (hp.objs.size + 1) = some (PySem.HandSPX.excO C hp.objs.size) := by heap_get
  have I2 : Inv X pins σ (upd H1 (hp.objs.size + 1) (exo (hp.objs.size + 1) C none)) ⟨(hp.push (PySem.W.kdv_tup us)).push (PySem.HandSPX.excO C hp.objs.size), g, dr, tk, os⟩ :=
    I1.laid (t' := tk) (a := hp.objs.size + 1) (o := exo (hp.objs.size + 1) C none) (h' := (hp.push (PySem.W.kdv_tup us)).push (PySem.HandSPX.excO C hp.objs.size)) kk hsz (exo_ok hget)
  have r2 : Vals (V.ref (hp.objs.size + 1) :: vs) (Value.ref (hp.objs.size + 1) :: us) := .cons rfl r1
  have hl : (Value.ref (hp.objs.size + 1) :: us ++ []).length = ps.length := by
    have e := r2.length
    rw [F1.len _ _ _ _ hq] at e
    rw [List.append_nil]
    exact e.symm
  have hus : us.length ≤ sizeLine := by
    rw [← Paired.length r1, sizeLine_eq]
    omega
  have hbb := hb _ (Value.ref (hp.objs.size + 1) :: us) I2.kIn hl
  rw [List.append_nil] at hbb
  refine wpAny_call (PySem.HandSPX.call_own F.excBase_ValueError (fun Y => PySem.HandSPX.refsVE_contains Y bm hbm) (I1.kIn _ _ hC) (PySem.W.looks_findIn I1.kIn iC) (fun self => PySem.W.bind_fn I1.kIn self tI) hus
    (codeAny_mono (F1.run _ X.stack _ _ ⟨Value.ref (hp.objs.size + 1) :: us, []⟩ (Value.ref (hp.objs.size + 1) :: us) _ _ (fun _ _ _ => False) (hr.make C us []) (I2.env0.make C us []) hbb r2 hq) fun r s' hq' => ?_))
  cases r with
  | error er => exact (cx_no hq').elim
  | ok fl =>
    cases fl with
    | ret u =>
      obtain ⟨v, H2, os2, bare2, un2, hok2, rv, ev, d, fs, ea, ed, hd1, q2⟩ := hq'
      subst ev
      obtain ⟨h2, g2, d2, t2, os'⟩ := s'
      exact ⟨rv, mk_end (raises_own T.exC T.tyC) I1 hsz kk un2 hok2 os2 bare2 ea ed hd1 q2⟩
    | next => exact False.elim hq'
    | brk => exact False.elim hq'
    | cont => exact False.elim hq'
def tMkX (C : Addr) (sp : Sp) (ta : TA) : L2.St → Hp → L2.XK → Prop := fun σ H Q => ta σ H fun vs H1 => vs.length ≤ 1000 ∧ ∀ a, H1 a = none → sp (.ref a :: vs) (upd H1 a (exo a C none))
  (fun v H2 => v = .non ∧ ∃ (d : Addr) (fs : List (Str × V)), H2 a = some (exo a C (some d)) ∧ H2 d = some (exd d fs) ∧ H1 d = none ∧ Q (.ref C) (some d) (upd (L2.del H2 a) d (.xd fs))) (fun _ _ _ => False)
theorem pmk_x1 {x : Str} {C fI : Addr} {k : Nat} {fd : FuncData} {ps : List Str} {sp : Sp} {ta : TA} (T : OexC X.K C) (iC : PySem.W.findIn X.K (.ref C) "__init__" = some (some (.ref fI))) (tI : PySem.W.typeIn X.K (.ref fI) = some (.type "function"))
    (F1 : FnOk X.prog X.w X.K X.mg X.base (L2.CX X.prog X.w) k fI fd ps sp) (hr : Room (k + 1) X.A) (hb : Binds X.K fd ps []) (hm : X.mg x = some (.ref C)) (ha : PA X (e :: es) ta) (hg : L2.Gl X x := by rfl)
    (hdb : (x == ("__debug__" : Str)) = false := by decide) (he : starEach (e :: es) X.env = (false, eval e X.env) :: starEach es X.env := by rfl) (hpl : (backTo pos (starEach es X.env)).any (·.1) = false := by rfl) :
    PMk X (.Call (.Name x p) (e :: es) [] pos) (tMkX C sp ta) := by
  intro pins s σ H Q I h
  refine wpAny_Call_Name_kw (ld_glob I hg hm ?_ hdb)
  refine PySem.W.callWith_K (h₀ := X.base) I.ok.mod.kin T.kC (thn (ha.run pos pins s σ H _ I h) fun us s1 ⟨vs, H1, I1, r1, hz, q1⟩ => ⟨I1.kIn, ?_⟩) he hpl
  exact mk_called (x := x) T iC tI F1 hr hb I1 r1 hz q1
theorem pmk_x0 {x : Str} {C fI : Addr} {k : Nat} {fd : FuncData} {ps : List Str} {sp : Sp} (T : OexC X.K C) (iC : PySem.W.findIn X.K (.ref C) "__init__" = some (some (.ref fI))) (tI : PySem.W.typeIn X.K (.ref fI) = some (.type "function"))
    (F1 : FnOk X.prog X.w X.K X.mg X.base (L2.CX X.prog X.w) k fI fd ps sp) (hr : Room (k + 1) X.A) (hb : Binds X.K fd ps []) (hm : X.mg x = some (.ref C)) (hg : L2.Gl X x := by rfl) (hdb : (x == ("__debug__" : Str)) = false := by decide) :
    PMk X (.Call (.Name x p) [] [] pos) (tMkX C sp (fun σ H Q => Q [] H)) := by
  intro pins s σ H Q I h
  refine wpAny_Call_Name_kw (ld_glob I hg hm ?_ hdb)
  exact PySem.W.callWith_K0 I.kIn T.kC (mk_called (x := x) T iC tI F1 hr hb I .nil h.1 h.2)
end
/-! ### the __init__ of an error: self.f = f; self.f = () -/
def spIn (K : PySem.W.Frag) (C : Addr) (f : Str) : Sp := fun vs H Q _ => ∃ a v, vs = [.ref a, v] ∧ H a = some (exo a C none) ∧ ∀ dx, H dx = none → dx ≠ a → Q .non (upd (upd H dx (exd dx [(f, v)])) a (exo a C (some dx)))
def spIn0 (K : PySem.W.Frag) (C : Addr) (f : Str) : Sp := fun vs H Q _ => ∃ a, vs = [.ref a] ∧ H a = some (exo a C none) ∧ ∀ t dx, H t = none → t ≠ a → upd H t (.tup []) dx = none → dx ≠ a → Q .non (upd (upd (upd H t (.tup [])) dx (exd dx [(f, .ref t)])) a (exo a C (some dx)))
/-- what the text says of an own error class -/
structure EC (K : PySem.W.Frag) (mg : Str → Option Value) (x f : Str) (C fI : Addr) : Prop where
  gC : mg x = some (.ref C)
  ox : OexC K C
  iC : PySem.W.findIn K (.ref C) "__init__" = some (some (.ref fI))
  tI : PySem.W.typeIn K (.ref fI) = some (.type "function")
  noF : PySem.W.findIn K (.ref C) f = some none
  ga : PySem.W.findIn K (.ref C) "__getattribute__" = some (some (.builtin "BaseException.__getattribute__"))
  gg : PySem.W.findIn K (.ref C) "__getattr__" = some none
  hd : PySem.W.hasDictIn K C = true
theorem EC.xf {K : PySem.W.Frag} {mg : Str → Option Value} {x f : Str} {C fI : Addr} (E : EC K mg x f C fI) : XfC K C := ⟨E.ga, E.gg, E.ox.exC, E.hd⟩
section
variable {P : Program} {w : World} {K : PySem.W.Frag} {mg : Str → Option Value} {base : Heap}
theorem fn_in1 {qual f : Str} {st : Stmt} {fI C : Addr} {fd : FuncData} {N : List Str} (F : Fun K "__init__" qual st fI fd) (Sc : FnScope N ["self", f] (defScope st)) (hN : N = [("self" : Str), f]) (T : OexC K C) (noF : PySem.W.findIn K (.ref C) f = some none)
    (hb : ∀ (cdv : Value) (A : Around) (outer : List PySem.Env) (s : Shared) (H : Hp) (E : L2.XK), PSs (cxOf (L2.CX P w) P w K mg base N qual (defScope st) fI cdv A outer s H E) (defBody st) (tOst K f (tVar 0) (tVar 1))) :
    FnOk P w K mg base (L2.CX P w) 1 fI fd ["self", f] (spIn K C f) := by
  refine F.okX (k := 0) Sc (fun vs H Q E h => ?_) (fun cdv A outer s H vs Q E hr h => ⟨_, hb cdv A outer s H E, ?_⟩)
  · obtain ⟨a, v, rfl, _⟩ := h; rfl
  · obtain ⟨a, v, rfl, ha, q⟩ := h
    subst hN
    exact ⟨v, rfl, .ref a, rfl, a, C, rfl, T, noF, .inl ⟨ha, fun dx n ne => q dx n ne⟩⟩
theorem fn_in0 {qual f : Str} {st : Stmt} {fI C : Addr} {fd : FuncData} {N : List Str} {te : TE} (F : Fun K "__init__" qual st fI fd) (Sc : FnScope N ["self"] (defScope st)) (hN : N = [("self" : Str)]) (T : OexC K C) (noF : PySem.W.findIn K (.ref C) f = some none)
    (hb : ∀ (cdv : Value) (A : Around) (outer : List PySem.Env) (s : Shared) (H : Hp) (E : L2.XK), PSs (cxOf (L2.CX P w) P w K mg base N qual (defScope st) fI cdv A outer s H E) (defBody st) (tOst K f (tVar 0) te))
    (ht : ∀ σ H Q, (∀ t, H t = none → Q (.ref t) (upd H t (.tup []))) → te σ H Q) :
    FnOk P w K mg base (L2.CX P w) 1 fI fd ["self"] (spIn0 K C f) := by
  refine F.okX (k := 0) Sc (fun vs H Q E h => ?_) (fun cdv A outer s H vs Q E hr h => ⟨_, hb cdv A outer s H E, ?_⟩)
  · obtain ⟨a, rfl, _⟩ := h; rfl
  · obtain ⟨a, rfl, ha, q⟩ := h
    subst hN
    refine ht _ _ _ fun t nt => ?_
    have hta : t ≠ a := fun z => by rw [z, ha] at nt; cases nt
    exact ⟨.ref a, rfl, a, C, rfl, T, noF, .inl ⟨by rw [upd_ne (Ne.symm hta)]; exact ha, fun dx n ne => q t dx nt hta n ne⟩⟩
end
/-! ### raise X(e), raise X() over plain data -/
def raiseS (t : Nat) (fs : Rho → R (List VD)) : Rho → O := fun ρ => (fs ρ).thnO fun vs ρ1 => match datAll vs with
  | some [d] => .err ⟨t, [d]⟩ ρ1
  | _ => .bad
def raise0S (t : Nat) : Rho → O := fun ρ => .err ⟨t, [.tup []]⟩ ρ
section
variable {X : Cx} {T : Tb} {W : WX} {p pos pos' : Pos} {e : Expr} {es : List Expr} {fs : Rho → R (List VD)}
theorem del_made {H1 : Hp} {a d : Addr} {o1 o2 o3 : HO} (ha : H1 a = none) (hd : d ≠ a) : upd (L2.del (upd (upd (upd H1 a o1) d o2) a o3) a) d o2 = upd H1 d o2 := by
  funext b
  by_cases hb : b = d
  · subst hb; rw [upd_same, upd_same]
  · rw [upd_ne hb, upd_ne hb]
    by_cases hba : b = a
    · subst hba; rw [del_same, ha]
    · rw [del_ne hba, upd_ne hba, upd_ne hb, upd_ne hba]
theorem xs_raise1 {t : Nat} {x f : Str} {fI : Addr} {fd : FuncData} (hc : X.calm = true) (tk : Takes X W) (Ec : EC X.K X.mg x f (T t) fI) (F1 : FnOk X.prog X.w X.K X.mg X.base (L2.CX X.prog X.w) 1 fI fd ["self", f] (spIn X.K (T t) f)) (hr : Room 2 X.A) (hb : Binds X.K fd ["self", f] [])
    (hf : flds t = [f]) (ha : XA X T W (e :: es) fs) (hg : L2.Gl X x := by rfl) (hdb : (x == ("__debug__" : Str)) = false := by decide) (he : starEach (e :: es) X.env = (false, eval e X.env) :: starEach es X.env := by rfl) (hpl : (backTo pos (starEach es X.env)).any (·.1) = false := by rfl) :
    XS X T W (.Raise (some (.Call (.Name x p) (e :: es) [] pos)) none pos') (raiseS t fs) := (ps_raise hc tk (pmk_x1 Ec.ox Ec.iC Ec.tI F1 hr hb Ec.gC ha hg hdb he hpl)).impQ fun De σ H q => by
  obtain ⟨β, G, S, ρ, o, p⟩ := q
  refine ⟨β, G, S, ρ, o, PostS.thn (Rl := RpVs X.K T σ) p fun S1 H1 ρ1 vs us e1 o1 h1 p1 => ?_⟩
  split at p1
  case h_2 => exact p1.elim
  case h_1 d q =>
  have r := datAll_rps q h1
  obtain ⟨u, ur, rfl, hu, hur⟩ := r
  obtain rfl : ur = [] := hur
  refine ⟨by show 1 ≤ 1000; decide, fun a ha => ⟨a, u, rfl, upd_same, fun dx hdx hne => ⟨rfl, dx, [(f, u)], upd_same, by rw [upd_ne hne, upd_same], by rw [upd_ne hne] at hdx; exact hdx, ?_⟩⟩⟩
  have hdx' : H1 dx = none := by rw [upd_ne hne] at hdx; exact hdx
  have hH : upd (L2.del (upd (upd (upd H1 a (exo a (T t) none)) dx (exd dx [(f, u)])) a (exo a (T t) (some dx))) a) dx (.xd [(f, u)]) = upd H1 dx (.xd [(f, u)]) := by
    funext b
    by_cases hb : b = dx
    · subst hb; rw [upd_same, upd_same]
    · rw [upd_ne hb, upd_ne hb]
      by_cases hba : b = a
      · subst hba; rw [del_same, ha]
      · rw [del_ne hba, upd_ne hba, upd_ne hb, upd_ne hba]
  rw [hH]
  have e2 := Ext.new (S := S1) (H := H1) (p := dx) (o := .xd [(f, u)]) o1.sh hdx'
  exact p1 _ σ _ _ _ e2.s (o1.ext e2) ⟨rfl, dx, [u], rfl, by rw [upd_same, hf]; rfl, u, [], rfl, Rp.mono e2.s _ _ hu, rfl⟩
theorem xs_raise0 {t : Nat} {x f : Str} {fI : Addr} {fd : FuncData} (hc : X.calm = true) (tk : Takes X W) (Ec : EC X.K X.mg x f (T t) fI) (F1 : FnOk X.prog X.w X.K X.mg X.base (L2.CX X.prog X.w) 1 fI fd ["self"] (spIn0 X.K (T t) f)) (hr : Room 2 X.A) (hb : Binds X.K fd ["self"] [])
    (hf : flds t = [f]) (hg : L2.Gl X x := by rfl) (hdb : (x == ("__debug__" : Str)) = false := by decide) :
    XS X T W (.Raise (some (.Call (.Name x p) [] [] pos)) none pos') (raise0S t) := (ps_raise hc tk (pmk_x0 Ec.ox Ec.iC Ec.tI F1 hr hb Ec.gC hg hdb)).impQ fun De σ H q => by
  obtain ⟨β, G, S, ρ, o, p⟩ := q
  refine ⟨by decide, fun a ha => ⟨a, rfl, upd_same, fun tt dx ht hta hdx hne => ⟨rfl, dx, [(f, .ref tt)], upd_same, by rw [upd_ne hne, upd_same], ?_, ?_⟩⟩⟩
  · by_cases hd : dx = tt
    · subst hd; rw [upd_same] at hdx; cases hdx
    · rw [upd_ne hd, upd_ne hne] at hdx; exact hdx
  have hdt : dx ≠ tt := fun z => by subst z; rw [upd_same] at hdx; cases hdx
  have hdx' : H dx = none := by rw [upd_ne hdt, upd_ne hne] at hdx; exact hdx
  have ht' : H tt = none := by rw [upd_ne hta] at ht; exact ht
  have hH : upd (L2.del (upd (upd (upd (upd H a (exo a (T t) none)) tt (.tup [])) dx (exd dx [(f, .ref tt)])) a (exo a (T t) (some dx))) a) dx (.xd [(f, .ref tt)]) = upd (upd H tt (.tup [])) dx (.xd [(f, .ref tt)]) := by
    funext b
    by_cases hb : b = dx
    · subst hb; rw [upd_same, upd_same]
    · rw [upd_ne hb, upd_ne hb]
      by_cases hba : b = a
      · subst hba; rw [del_same, upd_ne (Ne.symm hta), ha]
      · rw [del_ne hba, upd_ne hba, upd_ne hb]
        by_cases hbt : b = tt
        · subst hbt; rw [upd_same, upd_same]
        · rw [upd_ne hbt, upd_ne hbt, upd_ne hba]
  rw [hH]
  have e1 := Ext.new (S := S) (H := H) (p := tt) (o := .tup []) o.sh ht'
  have e2 := Ext.new (S := upd S tt (.tup [])) (H := upd H tt (.tup [])) (p := dx) (o := .xd [(f, .ref tt)]) (o.ext e1).sh (by rw [upd_ne hdt]; exact hdx')
  have e3 := e1.trans e2
  exact p _ σ _ _ _ e3.s (o.ext e3) ⟨rfl, dx, [.ref tt], rfl, by rw [upd_same, hf]; rfl, .ref tt, [], rfl, ⟨tt, [], rfl, SqT.of (by rw [upd_ne (Ne.symm hdt), upd_same]), rfl⟩, rfl⟩
/-- e.f, e an error that was caught -/
def tXk (K : PySem.W.Frag) (f : Str) (te : TE) : TE := fun σ H Q => te σ H fun x H1 => ∃ (a C dd : Addr) (fs : List (Str × V)) (v : V), x = .ref a ∧ XfC K C ∧ PySem.W.findIn K (.ref C) f = some none ∧ H1 a = some (ExK C dd a) ∧ H1 dd = some (.xd fs) ∧ fs.lookup f = some v ∧ Q v H1
theorem pe_xk {te : TE} {n : Str} (he : PE X e te) (hb : attributeBase e n X.env (eval e X.env) = eval e X.env := by rfl) : PE X (.Attribute e n pos) (tXk X.K n te) := by
  refine ⟨fun pins s σ H Q I h => ?_⟩
  refine attr_of hb (thn (he.run pins s σ H _ I h) fun u s1 hh => ?_)
  obtain ⟨x, H1, I1, rx, a, C, dd, fs, v, ex, T, hno, ea, ed, l, q⟩ := hh
  subst ex
  obtain rfl : u = Value.ref a := rx
  obtain ⟨⟨oe, vs, ha, hz, hd⟩, _⟩ : ObjOk X.prog X.w H1 s1.heap a (ExK C dd a) := I1.hok a _ ea
  have hx : ObjOk X.prog X.w H1 s1.heap dd (.xd fs) := I1.hok dd _ ed
  obtain ⟨mA, hns, hr⟩ := hx
  obtain ⟨od, ho, hl⟩ := lookIn_ns hns
  obtain ⟨u, hu, ru⟩ := RelO.some_of (v := v) (o := mA n) (by rw [← l]; exact hr n)
  have J : PySem.W.InstAt s1.heap a oe C (some od) := ⟨ha, hz.1, by unfold PySem.W.notCls; rw [hd] <;> rfl, by rw [hz.2]; exact ho⟩
  exact HandSPX.exc_get I1.kIn J T.ga T.gg T.exC (PySem.W.findObj_own T.hdC hno rfl (by rw [hl, hu])) (handed_of ru) ⟨v, H1, I1.tok _, ru, q⟩
/-- the field f of an error of one of the classes ts -/
def fldD (ts : List Nat) (f : Str) : D → Option D
  | .obj t [d] => if isEx t && ts.contains t && decide (flds t = [f]) then some d else none
  | _ => none
theorem xe_efld {ts : List Nat} {n : Str} {fa : Rho → R VD} (hT : ∀ t ∈ ts, XfC X.K (T t) ∧ PySem.W.findIn X.K (.ref (T t)) n = some none) (he : XE X T W e fa) (hb : attributeBase e n X.env (eval e X.env) = eval e X.env := by rfl) : XE X T W (.Attribute e n pos) (op1E (fldD ts n) fa) :=
  (pe_xk he hb).impQ fun σ H Q h => by
    refine tUn_of (r := fun x H1 Q => ∃ (a C dd : Addr) (fs : List (Str × V)) (v : V), x = .ref a ∧ XfC X.K C ∧ PySem.W.findIn X.K (.ref C) n = some none ∧ H1 a = some (ExK C dd a) ∧ H1 dd = some (.xd fs) ∧ fs.lookup n = some v ∧ Q v H1) ?_ h
    intro S H x dx d Q e hx hd g
    unfold fldD at hd
    split at hd
    · rename_i t d0
      split at hd
      · rename_i hh
        cases hd
        rw [Bool.and_eq_true, Bool.and_eq_true] at hh
        obtain ⟨⟨h1, h2⟩, h3⟩ := hh
        obtain ⟨t1, t2⟩ := hT t (by simpa using h2)
        rcases hx with ⟨a, vs, rfl, ob, rps⟩ | ⟨_, _, _, _, z, _⟩
        · rcases ob with ⟨_, dd, s1, s2⟩ | ⟨z, _⟩
          · obtain ⟨v, vr, rfl, rv, hvr⟩ := rps
            obtain rfl : vr = [] := hvr
            rw [of_decide_eq_true h3] at s2
            exact ⟨a, T t, dd, [(n, v)], v, rfl, t1, t2, e _ _ s1, e _ _ s2, by simp [List.lookup], g.now e rv⟩
          · rw [z] at h1; cases h1
        · cases z
      · cases hd
    · cases hd
end
end Lq
namespace Lq
open PySem PySem.Spec PyProof.Rows L2
/-! ### tables of classes -/
def tbT (l : List (Nat × Addr)) : Tb := fun t => (l.lookup t).getD 0
def clsAt : Stmt → Nat → Stmt
  | .ClassDef _ _ _ body _ _ _ _ _ _ _, j => body.getD j (.Pass ⟨0, 0, 0, 0⟩)
  | s, _ => s
theorem exs_nil {K : PySem.W.Frag} {T : Tb} {c : Value} : ∀ t b, List.lookup t ([] : List (Nat × Bool)) = some b → PySem.W.exmOne K (.ref (T t)) c = some b := fun t b h => by cases h
theorem exs_cons {K : PySem.W.Frag} {T : Tb} {c : Value} {t0 : Nat} {b0 : Bool} {r : List (Nat × Bool)} (h : PySem.W.exmOne K (.ref (T t0)) c = some b0) (hr : ∀ t b, List.lookup t r = some b → PySem.W.exmOne K (.ref (T t)) c = some b) :
    ∀ t b, List.lookup t ((t0, b0) :: r) = some b → PySem.W.exmOne K (.ref (T t)) c = some b := fun t b q => by
  rw [List.lookup_cons] at q
  by_cases e : t = t0
  · subst e
    simp at q
    rw [← q]; exact h
  · have : (t == t0) = false := by simpa using e
    rw [this] at q
    exact hr t b q
theorem exf_nil {K : PySem.W.Frag} {T : Tb} {n : Str} : ∀ t ∈ ([] : List Nat), XfC K (T t) ∧ PySem.W.findIn K (.ref (T t)) n = some none := fun t h => by cases h
theorem exf_cons {K : PySem.W.Frag} {T : Tb} {n : Str} {t0 : Nat} {r : List Nat} (h1 : XfC K (T t0)) (h2 : PySem.W.findIn K (.ref (T t0)) n = some none) (hr : ∀ t ∈ r, XfC K (T t) ∧ PySem.W.findIn K (.ref (T t)) n = some none) :
    ∀ t ∈ t0 :: r, XfC K (T t) ∧ PySem.W.findIn K (.ref (T t)) n = some none := fun t h => by
  rcases List.mem_cons.1 h with rfl | h
  · exact ⟨h1, h2⟩
  · exact hr t h
/-! ### a new list by either way of a test; s.split(t) as a new list -/
section
variable {X : Cx} {T : Tb} {W : WX} {a b c : Expr} {pos : Pos} {ft : Rho → R Bool}
def ifF (ft : Rho → R Bool) (f g : Rho → R (List D)) : Rho → R (List D) := fun ρ => (ft ρ).bind fun k ρ1 => if k then f ρ1 else g ρ1
theorem xf_if {f g : Rho → R (List D)} (hc : XT X T W c ft) (ha : XF X T W a f) (hb : XF X T W b g) : XF X T W (.IfExp c a b pos) (ifF ft f g) := (pe_ifExp hc ha hb).impQ fun σ H Q h => by
  obtain ⟨β, G, S, ρ, o, p⟩ := h
  refine ⟨β, G, S, ρ, o, PostF.thn (Rl := fun _ (b c : Bool) => b = c) p fun S1 H1 ρ1 v u e1 o1 h1 p1 => ?_⟩
  subst h1
  cases v with
  | true => exact iteT ⟨β, G, S1, ρ1, o1, p1⟩
  | false => exact iteF ⟨β, G, S1, ρ1, o1, p1⟩
end
end Lq
namespace Lq
open PySem PySem.Spec PyProof.Rows L2
/-! ### sets of keys (ints, texts), with what a walk over them wants -/
def kOf (e : Int × Value) : Key := match e.2 with
  | .int k _ => .inl k
  | .str x _ => .inr x
  | _ => .inl 0
def GdK (w : World) (e : Int × Value) : Prop := keyIs (kOf e) e.2 = true ∧ e.1 = keyH w (kOf e)
theorem kOf_of {k : Key} {i : Int} {v : Value} (h : keyIs k v = true) : kOf (i, v) = k := by
  rcases keyIs_shape h with ⟨i, t, rfl, rfl⟩ | ⟨x, t, rfl, rfl⟩ <;> rfl
theorem gd_is {w : World} {e : Int × Value} (g : GdK w e) (k : Key) : keyIs k e.2 = true ↔ kOf e = k := ⟨fun h => kOf_of (i := e.1) h, fun h => h ▸ g.1⟩
theorem key_scans {k : Key} {v : Value} (h : keyIs k v = true) : v.scannable = true := by
  rcases keyIs_shape h with ⟨i, t, rfl, rfl⟩ | ⟨x, t, rfl, rfl⟩ <;> rfl
theorem gd_elems {P : Program} {w : World} {l : List (Int × Value)} (g : ∀ e ∈ l, GdK w e) : ElemsOf (mixKind P w) l := fun e he => ⟨⟨kOf e, (g e he).1, (g e he).2⟩, key_scans (g e he).1⟩
theorem nodup_le {α : Type} [DecidableEq α] : ∀ {l m : List α}, l.Nodup → (∀ x ∈ l, x ∈ m) → l.length ≤ m.length
  | [], _, _, _ => Nat.zero_le _
  | x :: l, m, d, h => by
    obtain ⟨d1, d2⟩ := List.nodup_cons.1 d
    have hx := h x List.mem_cons_self
    have := nodup_le (m := m.erase x) d2 fun y hy => (List.mem_erase_of_ne (fun (e : y = x) => d1 (by rw [← e]; exact hy))).2 (h y (List.mem_cons_of_mem _ hy))
    rw [List.length_erase_of_mem hx] at this
    have := List.length_pos_of_mem hx
    rw [List.length_cons]; omega
def SetG (w : World) (h : Heap) (a : Addr) (ks : List Key) : Prop := ∃ (o : Obj) (es : Array (Int × Value)) (ep : Nat) (t : SetTable), h.get? a = some o ∧ o.ExactSet ∧ o.data = .set es ep t ∧
  ((∀ e ∈ es.toList, GdK w e) ∧ (es.toList.map kOf).Nodup ∧ ∀ k, k ∈ ks ↔ k ∈ es.toList.map kOf) ∧ es.size < scanBound ∧ t.fits es.size = true ∧ Ris t.place.toList ∧ (w.params.followText "set-order" = true ∨ t.led = true)
theorem SetG.at {w : World} {h h' : Heap} {a : Addr} {ks : List Key} (R : SetG w h a ks) (k : ∀ o, h.get? a = some o → h'.get? a = some o) : SetG w h' a ks := by
  obtain ⟨o, es, ep, t, ho, rest⟩ := R
  exact ⟨o, es, ep, t, k o ho, rest⟩
theorem SetG.same {w : World} {h : Heap} {a : Addr} {ks ls : List Key} (R : SetG w h a ks) (e : ∀ k, k ∈ ls ↔ k ∈ ks) : SetG w h a ls := by
  obtain ⟨o, es, ep, t, h1, h2, h3, ⟨h4, h5, h6⟩, rest⟩ := R
  exact ⟨o, es, ep, t, h1, h2, h3, ⟨h4, h5, fun k => (e k).trans (h6 k)⟩, rest⟩
section
variable {P : Program} {w : World} {A : Around} {E : Value → Shared → Prop} {s : Shared} {a : Addr} {ks : List Key}
theorem setG_tail {g : Bool → Sem Unit} (hg : ∀ (b : Bool) (s₁ : Shared) (Q' : Unit → Shared → Prop), Q' () s₁ → wpAny (model P w) A (g b) Q' E s₁)
    {o : Obj} {es e1 : Array (Int × Value)} {ep : Nat} {t t2 : SetTable} (ho : s.heap.get? a = some o) (hex : o.ExactSet) (hd : o.data = .set es ep t) (g1 : (∀ e ∈ e1.toList, GdK w e) ∧ (e1.toList.map kOf).Nodup ∧ ∀ k, k ∈ ks ↔ k ∈ e1.toList.map kOf)
    (hb1 : e1.size < scanBound) (hf2 : t2.fits e1.size = true) (hr : Ris t2.place.toList) (hl : w.params.followText "set-order" = true ∨ t2.led = true) {dm : Bool} {R : Option Bool → Shared → Prop}
    (hR : ∀ h', Heap.SameBut a s.heap h' → SetG w h' a ks → R (some true) { s with heap := h' }) :
    wpAny (model P w) A (do
        storeSet a e1 t2
        if (!dm && t2.tooFull) = true then do
            g (relayAll t2 e1 (SetTable.grown e1.size)).2.2
            storeSet a (relayAll t2 e1 (SetTable.grown e1.size)).1 (relayAll t2 e1 (SetTable.grown e1.size)).2.1
            pure (some true)
          else pure (some true)) R E s := by
  have here := store_at (es' := e1) (t' := t2) ho hd
  have but := Heap.SameBut.update s.heap a (Obj.putSet e1 t2)
  refine wpAny_bind (wpAny_storeSet_of ho hd ?_ (fits_of_scanBound hb1))
  split
  case isFalse => exact wpAny_pure (hR _ but ⟨_, e1, _, t2, here, hex, rfl, g1, hb1, hf2, hr, hl⟩)
  case isTrue =>
    obtain ⟨pm, f3, r3, l3⟩ := And.intro (relayAll_perm t2 e1 (SetTable.grown e1.size)) (And.intro (relayAll_fits t2 e1 (SetTable.grown e1.size)) (And.intro (relayAll_ris t2 e1 (SetTable.grown e1.size)) (relayAll_led t2 e1 (SetTable.grown e1.size))))
    generalize relayAll t2 e1 (SetTable.grown e1.size) = Z at pm f3 r3 l3 ⊢
    obtain ⟨e2, t3, gv⟩ := Z
    dsimp only at pm f3 r3 l3 ⊢
    have z2 : e2.size = e1.size := by rw [← Array.length_toList, pm.length_eq, Array.length_toList]
    have b2 : e2.size < scanBound := z2 ▸ hb1
    refine wpAny_bind (hg _ _ _ (wpAny_bind (wpAny_storeSet_of here rfl ?_ (fits_of_scanBound b2))))
    refine wpAny_pure (hR _ (but.trans (Heap.SameBut.update _ a _)) ⟨_, e2, _, t3, store_at (es' := e2) (t' := t3) here rfl, hex, rfl, ⟨fun e he => g1.1 e (pm.mem_iff.mp he), (pm.map kOf).nodup_iff.mpr g1.2.1, fun k => (g1.2.2 k).trans (pm.map kOf).mem_iff.symm⟩, b2, f3, r3, ?_⟩)
    exact hl.imp id fun z => l3.trans z
theorem setG_add {k : Key} {v : Value} {Q : Bool → Shared → Prop} (hv : keyIs k v = true) (R : SetG w s.heap a ks) (room : ks.length + 1 < scanBound)
    (hQ : ∀ b h', Heap.SameBut a s.heap h' → SetG w h' a (k :: ks) → Q b { s with heap := h' }) : wpAny (model P w) A (setAddHashed a v ((mixKind P w).hash k)) Q E s := by
  obtain ⟨o, es, ep, t, ho, hex, hd, ⟨g, nd, hm⟩, hb, hf, hr, hl⟩ := R
  have hkey : (mixKind P w).is k v = true := hv
  have hel : ElemsOf (mixKind P w) es.toList := gd_elems g
  have hlen : es.size ≤ ks.length := by
    rw [← Array.length_toList, ← List.length_map (f := kOf)]
    exact nodup_le nd fun x hx => (hm x).2 hx
  unfold setAddHashed setAddHashedIn
  refine wpAny_holding (wpAny_bind (wpAny_setState_of ho hd hf ?_))
  dsimp only
  rw [byScan_of (key_scans hv) hb hel, if_pos rfl]
  unfold setAddByScan
  refine wpAny_bind (wpAny_bind (wpAny_rule (wpAny_bind (wpAny_setScan_of hkey ho hd hf hel ?_))))
  cases hfi : List.findIdx? (fun e => (mixKind P w).is k e.2) es.toList with
  | some j =>
    obtain ⟨hj, pj, _⟩ := List.findIdx?_eq_some_iff_getElem.mp hfi
    have hk : k ∈ es.toList.map kOf := List.mem_map.2 ⟨_, List.getElem_mem hj, (gd_is (g _ (List.getElem_mem hj)) k).1 pj⟩
    refine wpAny_pure (wpAny_pure (hQ _ s.heap (Heap.SameBut.refl a s.heap) ⟨o, es, ep, t, ho, hex, hd, ⟨g, nd, fun i => ?_⟩, hb, hf, hr, hl⟩))
    rw [List.mem_cons, hm i]
    exact ⟨fun z => z.elim (fun e => e ▸ hk) id, .inr⟩
  | none =>
    have hnk : k ∉ es.toList.map kOf := fun z => by
      obtain ⟨e, he, q⟩ := List.mem_map.1 z
      have c := List.findIdx?_eq_none_iff.mp hfi e he
      rw [show (mixKind P w).is k e.2 = true from (gd_is (g e he) k).2 q] at c
      cases c
    have gw : ∀ (b : Bool) {s₁ : Shared} {Q' : Unit → Shared → Prop}, Q' () s₁ → wpAny (model P w) A (match b with | true => rule "set.scan.the-table-gave-way" | false => pure ()) Q' E s₁ := fun b s₁ Q' q => by
      cases b
      · exact wpAny_pure q
      · exact wpAny_rule q
    obtain ⟨pm, f1, r1, l1⟩ := And.intro (layNew_perm t es ((mixKind P w).hash k) v) (And.intro (layNew_fits t es ((mixKind P w).hash k) v) (And.intro (layNew_ris t es ((mixKind P w).hash k) v hr) (layNew_led t es ((mixKind P w).hash k) v)))
    dsimp only
    generalize layNew t es ((mixKind P w).hash k) v = Z at pm f1 r1 l1 ⊢
    obtain ⟨e1, t1, dm, gv⟩ := Z
    dsimp only at pm f1 r1 l1 ⊢
    have pc : e1.toList.Perm (((mixKind P w).hash k, v) :: es.toList) := by
      rw [Array.toList_push] at pm
      exact pm.trans (List.perm_append_singleton _ _)
    have ek : kOf ((mixKind P w).hash k, v) = k := kOf_of hv
    have pk : (e1.toList.map kOf).Perm (k :: es.toList.map kOf) := by
      have := pc.map kOf
      rwa [List.map_cons, ek] at this
    have g1 : (∀ e ∈ e1.toList, GdK w e) ∧ (e1.toList.map kOf).Nodup ∧ ∀ i, i ∈ k :: ks ↔ i ∈ e1.toList.map kOf := by
      refine ⟨fun e he => ?_, pk.nodup_iff.mpr (List.nodup_cons.mpr ⟨hnk, nd⟩), fun i => ?_⟩
      · rcases List.mem_cons.mp (pc.mem_iff.mp he) with z | z
        · subst z; exact ⟨by rw [ek]; exact hv, by rw [ek]; rfl⟩
        · exact g e z
      · rw [pk.mem_iff, List.mem_cons, List.mem_cons, hm i]
    have z1 : e1.size = es.size + 1 := by rw [← Array.length_toList, pc.length_eq, List.length_cons, Array.length_toList]
    have b1 : e1.size < scanBound := by omega
    have ld : w.params.followText "set-order" = true ∨ t1.led = true := hl.imp id fun z => l1.trans z
    have noise : ∀ (b : Bool) (s₁ : Shared) (Q' : Unit → Shared → Prop), Q' () s₁ → wpAny (model P w) A (match b with | true => rule "set.scan.the-table-gave-way" | false => pure ()) Q' E s₁ := fun b s₁ Q' q => gw b q
    refine wpAny_bind (gw _ ?_)
    split
    · refine wpAny_bind ?_
      rw [hashByValue_scannable 8 (key_scans hv)]
      refine wpAny_pure (setG_tail (ks := k :: ks) ?_ ho hex hd g1 b1 ?_ ?_ ?_ fun h' sb r => ?_)
      · intro b s₁ Q' q; cases b <;> first | exact wpAny_pure q | exact wpAny_rule q
      · first | (split <;> first | exact f1 | exact SetTable.fits_plain_off f1) | exact f1
      · first | (split <;> exact r1) | exact r1
      · first | (split <;> exact ld) | exact ld
      · dsimp only; exact wpAny_pure (hQ _ h' sb r)
    · refine wpAny_bind (wpAny_pure ?_)
      rw [if_pos rfl]
      refine setG_tail (ks := k :: ks) ?_ ho hex hd g1 b1 f1 r1 ld fun h' sb r => ?_
      · intro b s₁ Q' q; cases b <;> first | exact wpAny_pure q | exact wpAny_rule q
      · dsimp only; exact wpAny_pure (hQ _ h' sb r)
/-- all of a walk's keys are put in -/
theorem setG_update {I : Addr} {fp wr : List Addr} {G : Array GenState → Array GenState → Prop} {n : Nat} {Pv : Nat → Value → Prop} {St : Nat → Shared → Prop} {R : Result → Shared → Prop}
    (W : WalksS P w A.in1 I fp wr G n Pv St) (S : Addr) (out : S ∉ fp) (ks : List Key) (hn : n = ks.length) (hb : ks.length + 1 < scanBound) (val : ∀ i v, Pv i v → ∃ k, ks[i]? = some k ∧ keyIs k v = true) :
    ∀ (m i : Nat) (s : Shared), n - i = m → i ≤ n → St i s → SetG w s.heap S (ks.take i) → (∀ s', Moved (S :: wr) G s s' → SetG w s'.heap S ks → R (.ok (.ret .none)) s') →
      codeAny (model P w) A (.builtin "set.update.loop" ⟨[.ref S, .ref I], []⟩) R s := by
  have apart : S ∉ wr := fun z => out (W.sub _ z)
  have more : ∀ b ∈ wr, b ∈ S :: wr := fun b z => List.mem_cons_of_mem _ z
  intro m
  induction m with
  | zero =>
    intro i s em hi st hS go
    obtain rfl : i = n := by omega
    rw [List.take_of_length_le (Nat.le_of_eq hn.symm)] at hS
    refine codeAny_builtin F.entry_set_update_loop ?_
    rw [Around.under_plainId F.plain_set_update_loop _]
    show wpAny _ A.in1 (pyNext (.ref I) >>= _) _ _ s
    refine wpAny_bind (W.done s _ _ st fun s' mv => ?_)
    show wpAny _ A.in1 (ret Value.none) _ _ s'
    exact wpAny_pure (go s' (mv.mono more) (hS.at fun o e => mv.heap S o apart e))
  | succ m ih =>
    intro i s em hi st hS go
    have lt : i < n := by omega
    refine codeAny_builtin F.entry_set_update_loop ?_
    rw [Around.under_plainId F.plain_set_update_loop _]
    show wpAny _ A.in1 (pyNext (.ref I) >>= _) _ _ s
    refine wpAny_bind (W.item i s _ _ lt st fun v s' hP st' mv => ?_)
    obtain ⟨k, hk, kv⟩ := val i v hP
    show wpAny _ A.in1 (holding [v] (setAdd S v) >>= _) _ _ s'
    refine wpAny_bind (wpAny_holding ?_)
    unfold setAdd
    refine wpAny_holding (wpAny_bind ((mixKind P w).pyHash (k := k) kv ?_))
    refine setG_add (s := { s' with toks := s'.toks + 1 }) kv (hS.at fun o e => mv.heap S o apart e) (by rw [List.length_take]; omega) fun b h' sb hS2 => ?_
    have hS3 : SetG w h' S (ks.take (i + 1)) := hS2.same fun j => by
      rw [List.take_add_one, hk]
      simp [List.mem_append, or_comm]
    refine wpAny_pure ⟨plainId_quiet F.plain_set_update_loop _, ih (i + 1) _ (by omega) lt (W.frame _ s' _ _ st' (Nat.le_succ _) fun b z o e => ?_) hS3 fun s'' mv2 hS4 => ?_⟩
    · rw [sb.2 b (fun y : b = S => out (y ▸ z))]; exact e
    · refine go s'' (Moved.trans W.gtrans ((mv.mono more).then_heap (Nat.le_succ _) fun b o z e => ?_) mv2) hS4
      rw [sb.2 b (fun y : b = S => z (y ▸ List.mem_cons_self))]; exact e
abbrev newSet (w : World) : Obj := { cls := .type "set", dict := none, data := .set #[] 0 (.fresh 0 0 (!w.params.followText "set-order")) }
theorem setG_new {h : Heap} {a : Addr} (ho : h.get? a = some (newSet w)) : SetG w h a [] :=
  ⟨_, #[], 0, _, ho, ⟨rfl, rfl, rfl⟩, rfl, ⟨fun e he => by simp at he, by simp, fun k => by simp⟩, by decide, by rfl, List.Pairwise.nil, by
    show _ ∨ (!w.params.followText "set-order") = true
    cases w.params.followText "set-order"
    · exact .inr rfl
    · exact .inl rfl⟩
/-- set(x), x a list or a tuple of keys -/
theorem call_setG {l : Addr} {T : String} {ol : Obj} {its : List Value} {nl : Nat} {ks : List Key} {Q : Value → Shared → Prop} (hh : A.handled = none) (hT : T = "list" ∨ T = "tuple") (hol : s.heap.get? l = some ol) (hcl : ol.cls = .type T) (hdl : ol.data = .seq its.toArray nl)
    (hz : its.length = ks.length) (val : ∀ (i : Nat) (v : Value), its[i]? = some v → ∃ k, ks[i]? = some k ∧ keyIs k v = true) (hb : ks.length + 1 < scanBound)
    (h : ∀ (h' : Heap) (tk : Nat), SetG w h' s.heap.objs.size ks → (∀ b o, s.heap.get? b = some o → h'.get? b = some o) → Q (.ref s.heap.objs.size) { s with heap := h', toks := tk }) :
    wpAny (model P w) A (call (.type "set") [.ref l]) Q E s := by
  obtain ⟨c, tl, hmro⟩ := F.called_set.mro
  obtain ⟨hmade, hsub, h1, h2, hct⟩ := And.intro F.called_set.made (And.intro F.called_set.sub (And.intro F.called_set.notType (And.intro F.called_set.canCreate (F.typeCall_set_1 (.ref l)))))
  refine wpAny_call (codeAny_of_tree ?_)
  show wpAny _ _ (callAny (.type "set") _) _ _ _
  refine wpAny_pure ⟨Code.quiet_builtin _ (by decide +kernel), codeAny_builtin F.entry_type_call ?_⟩
  rw [Around.under_plain (weight_type_call_type "set" [.ref l] []) rfl]
  repeat (any_goals (first | assumption | wp_step))
  refine codeAny_mono (code_set_led1 (.ref l) (E := E) (Q₁ := fun obj s₁ => obj = .ref s.heap.objs.size ∧ s₁ = { s with heap := s.heap.push (newSet w) }) ⟨rfl, rfl⟩) fun r s₁ hr => ?_
  cases r with
  | error e => exact hr
  | ok fl =>
    cases fl with
    | ret obj =>
      obtain ⟨rfl, rfl⟩ := hr
      have hS : (s.heap.push (newSet w)).get? s.heap.objs.size = some (newSet w) := Heap.get?_push_size _ rfl
      have hTS : Shared.TypeIs { s with heap := s.heap.push (newSet w) } (.ref s.heap.objs.size) "set" := ⟨_, hS, rfl⟩
      obtain ⟨hli, hbi⟩ := And.intro F.called_set.init.lookup (F.called_set.init.bind (.ref s.heap.objs.size))
      repeat (any_goals (first | assumption | wp_step))
      refine codeAny_mono (codeAny_call_builtin (R := wants (fun r s₂ => r = .none ∧ ∃ h' tk, s₂ = { s with heap := h', toks := tk } ∧ SetG w h' s.heap.objs.size ks ∧ (∀ b o, s.heap.get? b = some o → h'.get? b = some o)) E) F.called_set.init.plain F.entry_set_init (check_set_init_1 hTS ?_)) fun r₂ s₂ hr₂ => ?_
      · obtain ⟨ocls, odict, odata, oslots⟩ := ol
        simp only at hcl hdl
        subst hcl; subst hdl
        have hlS : l < s.heap.objs.size := Heap.lt_size hol
        have hh3 : A.in1.in1.in1.handled = none := by simp [hh]
        have hneI : l ≠ (s.heap.push (newSet w)).objs.size := by rw [Heap.size_push]; exact Nat.ne_of_lt (Nat.lt_succ_of_lt hlS)
        have hSf : s.heap.objs.size ∉ [(s.heap.push (newSet w)).objs.size, l] := fun z => by
          rw [Heap.size_push] at z
          rcases List.mem_cons.1 z with z | z
          · exact absurd z (Nat.ne_of_lt (Nat.lt_succ_self _))
          · exact absurd (List.mem_singleton.1 z) (Nat.ne_of_gt hlS)
        have val' : ∀ (i : Nat) (v : Value), its.toArray[i]? = some v → ∃ k, ks[i]? = some k ∧ keyIs k v = true := fun i v hv => val i v (by rw [← Array.getElem?_toList] at hv; exact hv)
        have hsz : its.toArray.size = ks.length := by rw [List.size_toArray]; exact hz
        obtain ⟨hsls, hslf, hne⟩ : isSubtype (.type T) (.type "set") = pure false ∧ isSubtype (.type T) (.type "frozenset") = pure false ∧ (Value.type T == Value.type "dict") = false := by
          rcases hT with rfl | rfl
          · exact ⟨F.sub_list_set, F.sub_list_frozenset, by decide⟩
          · exact ⟨F.sub_tuple_set, F.sub_tuple_frozenset, by decide⟩
        have hol' : (s.heap.push (newSet w)).get? l = some { cls := .type T, dict := odict, data := .seq its.toArray nl, slots := oslots } := Heap.get?_push_of_some _ hol
        unfold Builtin.«set.__init__» noKeywords Builtin.Frozenset.updateFrom
        generalize hPI : pyIter = PI
        wp_walk
        subst hPI
        rcases hT with rfl | rfl
        · have hl1 : (s.heap.push (newSet w)).IsList l its.toArray := ⟨_, hol', rfl, nl, rfl⟩
          refine wpAny_pyIter_list hl1 (wpAny_bind (wpAny_runValue ?_))
          refine setG_update ((Walks.list hh3 _ l hneI its.toArray).toS) s.heap.objs.size hSf ks hsz hb val' (its.toArray.size - 0) 0 _ (by omega) (Nat.zero_le _) ⟨⟨_, Heap.get?_push_size _ rfl, rfl, rfl⟩, hl1.push _⟩ (setG_new (Heap.get?_push_of_some _ hS)) fun s' mv hS' => ?_
          obtain ⟨h', g2, d', tk', os'⟩ := s'
          obtain ⟨eg, ed, eo⟩ := And.intro (show g2 = s.gens from mv.gens) (And.intro (show d' = s.drawn from mv.drawn) (show os' = s.os from mv.os))
          subst eg; subst ed; subst eo
          show wpAny _ _ _ _ _ _
          refine wpAny_pure ?_
          show wpAny _ _ (ret Value.none) _ _ _
          refine wpAny_pure ⟨rfl, h', tk', rfl, hS', fun b o e => mv.heap b o (fun z => ?_) (Heap.get?_push_of_some _ (Heap.get?_push_of_some _ e))⟩
          have lb := Heap.lt_size e
          rcases List.mem_cons.1 z with z | z
          · exact absurd z (Nat.ne_of_lt lb)
          · rw [Heap.size_push] at z; exact absurd (List.mem_singleton.1 z) (Nat.ne_of_lt (Nat.lt_succ_of_lt lb))
        · have hl1 : (s.heap.push (newSet w)).IsTuple l its.toArray := ⟨_, hol', rfl, nl, rfl⟩
          refine wpAny_pyIter_tuple hl1 (wpAny_bind (wpAny_runValue ?_))
          refine setG_update ((Walks.tuple hh3 _ l hneI its.toArray).toS) s.heap.objs.size hSf ks hsz hb val' (its.toArray.size - 0) 0 _ (by omega) (Nat.zero_le _) ⟨⟨_, Heap.get?_push_size _ rfl, rfl, rfl⟩, hl1.push _⟩ (setG_new (Heap.get?_push_of_some _ hS)) fun s' mv hS' => ?_
          obtain ⟨h', g2, d', tk', os'⟩ := s'
          obtain ⟨eg, ed, eo⟩ := And.intro (show g2 = s.gens from mv.gens) (And.intro (show d' = s.drawn from mv.drawn) (show os' = s.os from mv.os))
          subst eg; subst ed; subst eo
          show wpAny _ _ _ _ _ _
          refine wpAny_pure ?_
          show wpAny _ _ (ret Value.none) _ _ _
          refine wpAny_pure ⟨rfl, h', tk', rfl, hS', fun b o e => mv.heap b o (fun z => ?_) (Heap.get?_push_of_some _ (Heap.get?_push_of_some _ e))⟩
          have lb := Heap.lt_size e
          rcases List.mem_cons.1 z with z | z
          · exact absurd z (Nat.ne_of_lt lb)
          · rw [Heap.size_push] at z; exact absurd (List.mem_singleton.1 z) (Nat.ne_of_lt (Nat.lt_succ_of_lt lb))
      · cases r₂ with
        | error e => exact hr₂
        | ok fl₂ =>
          cases fl₂ with
          | ret r =>
            obtain ⟨rfl, h', tk, rfl, hS', hk'⟩ := hr₂
            repeat (any_goals (first | assumption | wp_step))
            exact h _ _ hS' hk'
          | _ => exact hr₂.elim
    | _ => exact hr.elim
end
end Lq
namespace Lq
open PySem PySem.Spec PyProof.Rows L2
/-! ### set(x), sorted(set(x)), len(set(x)) -/
/-- each once, as it was met first -/
def uniq {α : Type} [DecidableEq α] : List α → List α
  | [] => []
  | x :: l => x :: (uniq l).filter (fun y => decide (y ≠ x))
theorem uniq_mem {α : Type} [DecidableEq α] {z : α} : ∀ {l : List α}, z ∈ uniq l ↔ z ∈ l
  | [] => Iff.rfl
  | x :: l => by
    rw [uniq, List.mem_cons, List.mem_cons, List.mem_filter, uniq_mem]
    by_cases h : z = x
    · simp [h]
    · simp [h]
theorem uniq_nodup {α : Type} [DecidableEq α] : ∀ {l : List α}, (uniq l).Nodup
  | [] => List.nodup_nil
  | x :: l => by
    rw [uniq, List.nodup_cons]
    exact ⟨fun h => by simp at h, uniq_nodup.filter _⟩
theorem uniq_id {α : Type} [DecidableEq α] : ∀ {l : List α}, l.Nodup → uniq l = l
  | [], _ => rfl
  | x :: l, h => by
    obtain ⟨h1, h2⟩ := List.nodup_cons.1 h
    rw [uniq, uniq_id h2, List.filter_eq_self.2 fun y hy => by simp; exact fun e => h1 (e ▸ hy)]
theorem uniq_le {α : Type} [DecidableEq α] {l : List α} : (uniq l).length ≤ l.length := nodup_le uniq_nodup fun _ h => uniq_mem.1 h
theorem uniq_len {α : Type} [DecidableEq α] {l : List α} (h : (uniq l).length = l.length) : l.Nodup := by
  induction l with
  | nil => exact List.nodup_nil
  | cons x l ih =>
    rw [uniq, List.length_cons, List.length_cons] at h
    have h1 := List.length_filter_le (fun y => decide (y ≠ x)) (uniq l)
    have h2 := uniq_le (l := l)
    have h3 : (uniq l).length = l.length := by omega
    refine List.nodup_cons.2 ⟨fun hx => ?_, ih h3⟩
    have h4 : ((uniq l).filter fun y => decide (y ≠ x)).length = (uniq l).length := by omega
    have h5 := List.length_filter_eq_length_iff.1 h4 x (uniq_mem.2 hx)
    simp at h5
def SetGO (w : World) (a : Addr) (ks : List Key) : HO := .ext fun h => SetG w h a ks
theorem setGO_ok {P : Program} {w : World} {H : Hp} {h : Heap} {a : Addr} {ks : List Key} (R : SetG w h a ks) : ObjOk P w H h a (SetGO w a ks) := by
  obtain ⟨o, es, ep, t, ho, rest⟩ := id R
  exact ⟨R, ⟨o, ho⟩, fun _ _ z k => z.at fun o e => k o e⟩
section
variable {X : Cx}
theorem CallR.andC {f : Value} {r : List V → Hp → VK → Prop} (h : X.calm = true → CallR X f r) (hc : X.calm = true) : CallR X f r := h hc
def rSetG (K : PySem.W.Frag) (w : World) : List V → Hp → VK → Prop := fun xs H Q => ∃ (a : Addr) (ks : List Key), xs = [.ref a] ∧ SqA K H a (ks.map kV) ∧ ks.length ≤ 1000 ∧ ∀ p, H p = none → Q (.ref p) (upd H p (SetGO w p ks))
theorem vals_key : ∀ {ks : List Key} {us : List Value} {i : Nat} {v : Value}, Vals (ks.map kV) us → us[i]? = some v → ∃ k, ks[i]? = some k ∧ keyIs k v = true
  | [], _, i, v, .nil, e => by simp at e
  | k :: ks, _, 0, v, .cons r _, e => by
    simp at e; subst e
    refine ⟨k, rfl, ?_⟩
    cases k with
    | inl i => obtain ⟨t, rfl⟩ := r; exact keyIs_int i t
    | inr x => obtain ⟨t, rfl⟩ := r; exact keyIs_str x t
  | k :: ks, _, i + 1, v, .cons _ rr, e => by
    obtain ⟨k', h1, h2⟩ := vals_key (i := i) rr (by simpa using e)
    exact ⟨k', by simpa using h1, h2⟩
theorem call_setO (hc : X.calm = true) : CallR X (.type "set") (rSetG X.K X.w) := by
  intro pins s σ H vs us Q I r h
  obtain ⟨a, ks, rfl, hq, hl, q⟩ := h
  rw [Vals.ref1 r]
  obtain ⟨its, T, o, n, rv, hz, hT, e, c, d⟩ := seq_obj I hq
  have hlen : its.length = ks.length := by rw [← rv.length, List.length_map]
  refine call_setG (ks := ks) (I.ok.hd hc) hT e c d hlen (fun i v hv => vals_key rv hv) (by unfold scanBound; omega) fun h' tk R k => ?_
  have hn : s.heap.get? s.heap.objs.size = none := by
    cases q : s.heap.get? s.heap.objs.size with
    | none => rfl
    | some o => exact absurd (Heap.lt_size q) (Nat.lt_irrefl _)
  have hH : H s.heap.objs.size = none := I.hok.gone hn
  exact ⟨.ref s.heap.objs.size, _, I.laidN (t' := tk) k hn hH (setGO_ok R), rfl, q _ hH⟩
def setI (ns : List Int) : List Int := sortInts (uniq ns)
def setS (ws : List Str) : List Str := sortStrs (uniq ws)
def rSortG (w : World) : List V → Hp → VK → Prop := fun xs H Q => ∃ (a : Addr) (ks : List Key), xs = [.ref a] ∧ H a = some (SetGO w a ks) ∧ ks.length ≤ 1000 ∧
  ((∃ ns : List Int, ks = ns.map Sum.inl ∧ ∀ p, H p = none → Q (.ref p) (upd H p (.lst ((setI ns).map V.int)))) ∨ (∃ ws : List Str, ks = ws.map Sum.inr ∧ ∀ p, H p = none → Q (.ref p) (upd H p (.lst ((setS ws).map V.str)))))
theorem sorted_setG {P : Program} {w : World} {A : Around} {E : Value → Shared → Prop} {s : Shared} {a : Addr} {ks : List Key} {κ : PyProof.Rows.KeyKind} (one : κ.OneLt) {Q : Value → Shared → Prop} (R : SetG w s.heap a ks) (hh : A.handled = none)
    (keys : ∀ vs : List Value, (∀ v ∈ vs, ∃ k ∈ ks, keyIs k v = true) → KeysOf κ (pairsOf vs) ∧ ∀ v₁ v₂ rest, vs = v₁ :: v₂ :: rest → keyKind' (v₁ :: v₂ :: rest).toArray = pure oneType')
    (go : ∀ (s' : Shared) (p : Addr) (vs : List Value) (st : SortSt), (∀ v ∈ vs, ∃ k ∈ ks, keyIs k v = true) → (vs.map fun v => kOf (0, v)).Nodup → (∀ k ∈ ks, k ∈ vs.map fun v => kOf (0, v)) → s.heap.get? p = none → (∀ b o, s.heap.get? b = some o → s'.heap.get? b = some o) → s'.gens = s.gens → s'.os = s.os → (arrOf st).Perm (pairsOf vs) → SortedToK κ (arrOf st) (pairsOf vs).size → (∃ e, s'.heap.get? p = some (seqObj "list" ((arrOf st).map (·.2)) e)) → Q (.ref p) s') :
    wpAny (model P w) A (call (.builtin "sorted") [.ref a]) Q E s := by
  obtain ⟨o, es, ep, t, ho, hex, hd, ⟨g, nd, hm⟩, hb, hf, hr, hl⟩ := R
  refine Calls.call_function_entry kind_sorted plain_sorted entry_sorted (args_sorted1 _) ?_
  show wpAny _ _ (Builtin.«sorted» _) _ _ _
  unfold Builtin.«sorted»
  refine wpAny_bind (m := checkCount "sorted" 1 1 _) (wpAny_pure (wpAny_bind (collect_set (A := A.in1) hh ⟨o, ho, hex.1, hd⟩ hf hb hr hl fun s1 vs k1 hz g1 o1 pm => ?_)))
  obtain ⟨h1, gs, dr, tk, os⟩ := s1
  have hin : ∀ v ∈ vs, ∃ k ∈ ks, keyIs k v = true := fun v hv => by
    obtain ⟨e, he, q⟩ := List.mem_map.mp (pm.mem_iff.mp hv)
    exact ⟨kOf e, (hm _).2 (List.mem_map.2 ⟨e, he, rfl⟩), q ▸ (g e he).1⟩
  have ek : ∀ e ∈ es.toList, kOf (0, e.2) = kOf e := fun e he => kOf_of (g e he).1
  have pk : (vs.map fun v => kOf (0, v)).Perm (es.toList.map kOf) := by
    have q := pm.map fun v => kOf (0, v)
    rw [List.map_map] at q
    refine q.trans (List.Perm.of_eq ?_)
    exact List.map_congr_left fun e he => ek e he
  have small : vs.length ≤ sizeLine := by
    rw [pm.length_eq, List.length_map, Array.length_toList]
    exact fits_of_scanBound hb
  refine wpAny_bind (wpAny_newList ?_ (hsz := small))
  have here : (h1.push (seqObj "list" vs.toArray 0)).get? h1.objs.size = some (seqObj "list" vs.toArray 0) := Heap.get?_push_size _ rfl
  obtain ⟨c1, c2⟩ := keys vs hin
  have none_ : s.heap.get? h1.objs.size = none := by
    cases e : s.heap.get? h1.objs.size with
    | none => rfl
    | some o => exact absurd (Heap.lt_size (k1 _ _ e)) (Nat.lt_irrefl _)
  have fin := fun (st : SortSt) => go ⟨sortedHeap (h1.push (seqObj "list" vs.toArray 0)) h1.objs.size vs ((arrOf st).map (·.2)), gs, dr, tk, os⟩ h1.objs.size vs st hin (pk.nodup_iff.2 nd) (fun k hk => pk.mem_iff.2 ((hm k).1 hk)) none_ (fun b o e => sorted_keeps (fun z => by rw [z, none_] at e; cases e) (Heap.get?_push_of_some _ (k1 b o e))) g1 o1
  clear go hin pk hm g nd keys
  dsimp only
  refine wpAny_bind (wpAny_holding (wpAny_call_entry slot_list_sort (s := ⟨h1.push (seqObj "list" vs.toArray 0), gs, dr, tk, os⟩) ⟨_, here, rfl⟩ entry_list_sort (list_sort_treeKAny one here c1 c2 small fun st e1 e2 => ⟨_, rfl, wpAny_pure ⟨_, rfl, ?_⟩⟩) (args_list_sort _)))
  dsimp only
  exact fin st e1 e2 (sorted_there here)
theorem all_ints : ∀ {vs : List Value} {ns : List Int}, (∀ v ∈ vs, ∃ k ∈ ns.map (Sum.inl : Int → Key), keyIs k v = true) → ∃ ms : List Int, IntsAre vs ms ∧ vs.map (fun v => kOf (0, v)) = ms.map Sum.inl
  | [], _, _ => ⟨[], .nil, rfl⟩
  | v :: vs, ns, h => by
    obtain ⟨k, hk, kv⟩ := h v List.mem_cons_self
    obtain ⟨i, _, rfl⟩ := List.mem_map.1 hk
    obtain ⟨ms, h1, h2⟩ := all_ints (vs := vs) (ns := ns) fun u hu => h u (List.mem_cons_of_mem _ hu)
    rcases keyIs_shape kv with ⟨j, t, e, rfl⟩ | ⟨x, t, e, _⟩
    · exact ⟨j :: ms, .cons j t h1, by rw [List.map_cons, List.map_cons, h2]; rfl⟩
    · cases e
theorem all_strs : ∀ {vs : List Value} {ws : List Str}, (∀ v ∈ vs, ∃ k ∈ ws.map (Sum.inr : Str → Key), keyIs k v = true) → ∃ ms : List Str, StrsAre vs ms ∧ vs.map (fun v => kOf (0, v)) = ms.map Sum.inr
  | [], _, _ => ⟨[], .nil, rfl⟩
  | v :: vs, ns, h => by
    obtain ⟨k, hk, kv⟩ := h v List.mem_cons_self
    obtain ⟨i, _, rfl⟩ := List.mem_map.1 hk
    obtain ⟨ms, h1, h2⟩ := all_strs (vs := vs) (ws := ns) fun u hu => h u (List.mem_cons_of_mem _ hu)
    rcases keyIs_shape kv with ⟨x, t, e, _⟩ | ⟨j, t, e, rfl⟩
    · cases e
    · exact ⟨j :: ms, .cons j t h1, by rw [List.map_cons, List.map_cons, h2]; rfl⟩
theorem nodup_of_map {α β : Type} {f : α → β} : ∀ {l : List α}, (l.map f).Nodup → l.Nodup
  | [], _ => List.nodup_nil
  | x :: l, h => by
    rw [List.map_cons, List.nodup_cons] at h
    exact List.nodup_cons.2 ⟨fun hx => h.1 (List.mem_map.2 ⟨x, hx, rfl⟩), nodup_of_map h.2⟩
theorem call_sortedG (hc : X.calm = true) : CallR X (.builtin "sorted") (rSortG X.w) := by
  intro pins s σ H vs us Q I r h
  obtain ⟨a, ks, rfl, ha, hks, h⟩ := h
  rw [Vals.ref1 r]
  obtain ⟨R, _⟩ : ObjOk X.prog X.w H s.heap a (SetGO X.w a ks) := I.hok a _ ha
  have fin : ∀ {p : Addr} {s' : Shared} {ws : List V} {out : List Value} {ep : Nat}, s.heap.get? p = none → (∀ b o, s.heap.get? b = some o → s'.heap.get? b = some o) → s'.gens = s.gens → s'.os = s.os → s'.heap.get? p = some (seqObj "list" out.toArray ep) → Vals ws out → ws.length ≤ sizeLine → (∀ q, H q = none → Q (.ref q) (upd H q (.lst ws))) →
      ∃ v H1, Inv X pins σ H1 s' ∧ RelV v (.ref p) ∧ Q v H1 := fun {p s' ws out ep} n k eg eo e rv hz q => by
    have hn := I.hok.gone n
    exact ⟨.ref p, upd H p (.lst ws), I.call' (ch := []) eo (Un.laidN k n hn) (I.hok.laidN k hn ⟨hz, out, ep, rv, e⟩) (eg ▸ I.bare) (fun _ z => nomatch z), rfl, q p hn⟩
  rcases h with ⟨ns, rfl, q⟩ | ⟨ss, rfl, q⟩
  · refine sorted_setG intKind_oneLt R (I.ok.hd hc) (fun vs hv => ?_) fun s' p vs st hv nd mem n k eg eo hp hs ⟨ep, ee⟩ => ?_
    · obtain ⟨ms, hi, _⟩ := all_ints hv
      exact ⟨hi.keysOfInt, fun v₁ v₂ rest e => keyKind_ints (e ▸ hi)⟩
    · obtain ⟨ms, hi, em⟩ := all_ints hv
      obtain ⟨ls, h1, h2, h3⟩ := sorted_out hi hp (sortedTo_of_int hs)
      rw [em] at nd mem
      have hpm : ms.Perm (uniq ns) := (List.perm_ext_iff_of_nodup (nodup_of_map nd) uniq_nodup).2 fun i => by
        rw [uniq_mem]
        constructor
        · intro hi'
          have : (Sum.inl i : Key) ∈ vs.map fun v => kOf (0, v) := by rw [em]; exact List.mem_map.2 ⟨i, hi', rfl⟩
          obtain ⟨v, hv', e⟩ := List.mem_map.1 this
          obtain ⟨k, hk, kv⟩ := hv v hv'
          rw [kOf_of kv] at e
          subst e
          obtain ⟨j, hj, e⟩ := List.mem_map.1 hk
          cases e; exact hj
        · intro hi'
          obtain ⟨j, hj, e⟩ := List.mem_map.1 (mem _ (List.mem_map.2 ⟨i, hi', rfl⟩))
          cases e; exact hj
      cases uniq_ints ((h2.trans hpm).trans (sortInts_perm (uniq ns)).symm) h3 (sortInts_sorted _)
      refine fin n k eg eo ee (vals_of_ints h1) ?_ q
      rw [List.length_map] at hks ⊢
      rw [(sortInts_perm _).length_eq, sizeLine_eq]
      exact Nat.le_trans uniq_le (by omega)
  · refine sorted_setG strKind_oneLt R (I.ok.hd hc) (fun vs hv => ?_) fun s' p vs st hv nd mem n k eg eo hp hs ⟨ep, ee⟩ => ?_
    · obtain ⟨ms, hi, _⟩ := all_strs hv
      exact ⟨hi.keysOf, fun v₁ v₂ rest e => keyKind_strs (e ▸ hi)⟩
    · obtain ⟨ms, hi, em⟩ := all_strs hv
      obtain ⟨ls, h1, h2, h3⟩ := sorted_out_str hi hp hs
      rw [em] at nd mem
      have hpm : ms.Perm (uniq ss) := (List.perm_ext_iff_of_nodup (nodup_of_map nd) uniq_nodup).2 fun i => by
        rw [uniq_mem]
        constructor
        · intro hi'
          have : (Sum.inr i : Key) ∈ vs.map fun v => kOf (0, v) := by rw [em]; exact List.mem_map.2 ⟨i, hi', rfl⟩
          obtain ⟨v, hv', e⟩ := List.mem_map.1 this
          obtain ⟨k, hk, kv⟩ := hv v hv'
          rw [kOf_of kv] at e
          subst e
          obtain ⟨j, hj, e⟩ := List.mem_map.1 hk
          cases e; exact hj
        · intro hi'
          obtain ⟨j, hj, e⟩ := List.mem_map.1 (mem _ (List.mem_map.2 ⟨i, hi', rfl⟩))
          cases e; exact hj
      cases uniq_strs ((h2.trans hpm).trans (sortStrs_perm (uniq ss)).symm) (sortedS_pw h3) (sortStrs_sorted _)
      refine fin n k eg eo ee (vals_of_strs h1) ?_ q
      rw [List.length_map] at hks ⊢
      rw [(sortStrs_perm _).length_eq, sizeLine_eq]
      exact Nat.le_trans uniq_le (by omega)
def rLenG (w : World) : List V → Hp → VK → Prop := fun xs H Q => ∃ (a : Addr) (ks : List Key), xs = [.ref a] ∧ H a = some (SetGO w a ks) ∧ Q (.int ((uniq ks).length : Nat)) H
theorem call_lenG : CallR X (.builtin "len") (rLenG X.w) := by
  intro pins s σ H vs us Q I r h
  obtain ⟨a, ks, rfl, ha, q⟩ := h
  rw [Vals.ref1 r]
  obtain ⟨R, _⟩ : ObjOk X.prog X.w H s.heap a (SetGO X.w a ks) := I.hok a _ ha
  obtain ⟨o, es, ep, t, ho, hex, hd, ⟨g, nd, hm⟩, hb, hf, hr, hl⟩ := R
  have hn : es.size = (uniq ks).length := by
    have pk : (uniq ks).Perm (es.toList.map kOf) := (List.perm_ext_iff_of_nodup uniq_nodup nd).2 fun i => by rw [uniq_mem]; exact hm i
    rw [pk.length_eq, List.length_map, Array.length_toList]
  refine call_len_set ho hex hd hf (by unfold scanBound at hb; omega) ⟨.int ((uniq ks).length : Nat), H, I.tok _, ⟨_, by rw [hn]⟩, q⟩
end
/-! ### over plain data -/
/-- the keys of a list or a tuple: all ints, or all texts -/
def keysD (x : D) : Option (List Int ⊕ List Str) := match x.items? with
  | some xs => if Nat.ble xs.length 1000 then (match allOf D.int? xs with
    | some ns => some (.inl ns)
    | none => (match allOf D.str? xs with | some ws => some (.inr ws) | none => none)) else none
  | none => none
def sortSetF : List D → Option (List D)
  | [x] => (match keysD x with
    | some (.inl ns) => some ((setI ns).map D.int)
    | some (.inr ws) => some ((setS ws).map D.str)
    | none => none)
  | _ => none
def lenSetD : List D → Option D
  | [x] => (match keysD x with
    | some (.inl ns) => some (.int ((uniq ns).length : Nat))
    | some (.inr ws) => some (.int ((uniq ws).length : Nat))
    | none => none)
  | _ => none
theorem items_sq {K : PySem.W.Frag} {T : Tb} {S H : Hp} {x : D} {u : V} {xs : List D} (e : Same S H) (h : RpH K T S H x u) (hi : x.items? = some xs) : ∃ a vs, u = .ref a ∧ SqA K H a vs ∧ Rps K T S xs vs := by
  cases x with
  | lst ys =>
    cases hi
    obtain ⟨a, vs, rfl, h1, h2⟩ := h.lst e
    exact ⟨a, vs, rfl, .inl (SqL.of h1), h2⟩
  | tup ys =>
    cases hi
    obtain ⟨a, vs, rfl, h1, h2⟩ := h.tup e
    exact ⟨a, vs, rfl, .inr h1, h2⟩
  | _ => cases hi
theorem uniq_map {α β : Type} [DecidableEq α] [DecidableEq β] {f : α → β} (inj : ∀ x y, f x = f y → x = y) : ∀ l : List α, uniq (l.map f) = (uniq l).map f
  | [] => rfl
  | x :: l => by
    rw [List.map_cons, uniq, uniq, List.map_cons, uniq_map inj l, List.filter_map]
    congr 2
    apply List.filter_congr
    intro y _
    simp only [Function.comp, decide_eq_decide]
    exact ⟨fun h e => h (congrArg f e), fun h e => h (inj _ _ e)⟩
theorem keysD_of {K : PySem.W.Frag} {T : Tb} {S H : Hp} {x : D} {u : V} {z : List Int ⊕ List Str} (e : Same S H) (h : RpH K T S H x u) (hk : keysD x = some z) : ∃ a ks, u = .ref a ∧ SqA K H a (List.map kV ks) ∧ ks.length ≤ 1000 ∧ ((∃ ns, z = .inl ns ∧ ks = ns.map Sum.inl) ∨ (∃ ws, z = .inr ws ∧ ks = ws.map Sum.inr)) := by
  unfold keysD at hk
  split at hk
  case h_2 => cases hk
  case h_1 xs hi =>
  obtain ⟨a, vs, rfl, hq, rp⟩ := items_sq e h hi
  split at hk
  case isFalse => cases hk
  case isTrue hl =>
  have hl := Nat.le_of_ble_eq_true hl
  split at hk
  · rename_i ns hn
    cases hk
    have := allOf_ints hn
    subst this
    rw [rp.intsV] at hq
    refine ⟨a, ns.map Sum.inl, rfl, ?_, by rw [List.length_map] at hl ⊢; exact hl, .inl ⟨ns, rfl, rfl⟩⟩
    rw [List.map_map]; exact hq
  · split at hk
    · rename_i ws hn
      cases hk
      have := allOf_strs hn
      subst this
      rw [rp.strsV] at hq
      refine ⟨a, ws.map Sum.inr, rfl, ?_, by rw [List.length_map] at hl ⊢; exact hl, .inr ⟨ws, rfl, rfl⟩⟩
      rw [List.map_map]; exact hq
    · cases hk
section
variable {X : Cx} {T : Tb} {W : WX} {e : Expr} {fs : Rho → R (List VD)} {p p2 q pos : Pos}
theorem xf_sortSet (hc : X.calm = true) (hm : X.mg "sorted" = none) (hm2 : X.mg "set" = none) (ha : XA X T W [e] fs) (hg : L2.Gl X "sorted" := by rfl) (hg2 : L2.Gl X "set" := by rfl) (he : starEach [e] X.env = (false, eval e X.env) :: starEach [] X.env := by rfl)
    (he2 : starEach [.Call (.Name "set" p2) [e] [] q] X.env = (false, eval (.Call (.Name "set" p2) [e] [] q) X.env) :: starEach [] X.env := by rfl) : XF X T W (.Call (.Name "sorted" p) [.Call (.Name "set" p2) [e] [] q] [] pos) (opNF sortSetF fs) :=
  (pe_callB (call_sortedG hc) hg hm (by decide +kernel) (pa_cons (pe_callTy (call_setO hc) hg2 hm2 (by decide +kernel) ha (by decide) (by decide) he rfl) pa_nil he2) (by decide) (by decide) he2 rfl).impQ fun σ H Q h => by
    obtain ⟨β, G, S, ρ, o, p⟩ := h
    refine ⟨β, G, S, ρ, o, PostF.thn (Rl := RpVs X.K T σ) p fun S1 H1 ρ1 vs us e1 o1 h1 p1 => ?_⟩
    split at p1
    case h_2 => exact p1.elim
    case h_1 ds hr =>
    have rh := o1.resAll h1 hr
    split at p1
    case h_2 => exact p1.elim
    case h_1 d hd =>
    unfold sortSetF at hd
    split at hd
    case h_2 => cases hd
    case h_1 x =>
    obtain ⟨u, rfl, hu⟩ := rh.one
    split at hd
    · rename_i ns hk
      cases hd
      obtain ⟨a, ks, rfl, hq, hl, hz⟩ := keysD_of o1.sh hu hk
      rcases hz with ⟨_, hz, rfl⟩ | ⟨_, hz, rfl⟩
      · cases hz
        refine ⟨a, _, rfl, hq, hl, fun p hp => ⟨p, _, rfl, upd_same, hl, .inl ⟨ns, rfl, fun p' hp' => ?_⟩⟩⟩
        have e2 := Ext.skip (o := SetGO X.w p (ns.map Sum.inl)) o1.sh hp
        exact (PostF.gf p1 (o1.ext e2)).new (o1.ext e2).sh (Rps.ints _) p' hp'
      · cases hz
    · rename_i ws hk
      cases hd
      obtain ⟨a, ks, rfl, hq, hl, hz⟩ := keysD_of o1.sh hu hk
      rcases hz with ⟨_, hz, rfl⟩ | ⟨_, hz, rfl⟩
      · cases hz
      · cases hz
        refine ⟨a, _, rfl, hq, hl, fun p hp => ⟨p, _, rfl, upd_same, hl, .inr ⟨ws, rfl, fun p' hp' => ?_⟩⟩⟩
        have e2 := Ext.skip (o := SetGO X.w p (ws.map Sum.inr)) o1.sh hp
        exact (PostF.gf p1 (o1.ext e2)).new (o1.ext e2).sh (Rps.strs _) p' hp'
    · cases hd
theorem xe_lenSet (hc : X.calm = true) (hm : X.mg "len" = none) (hm2 : X.mg "set" = none) (ha : XA X T W [e] fs) (hg : L2.Gl X "len" := by rfl) (hg2 : L2.Gl X "set" := by rfl) (he : starEach [e] X.env = (false, eval e X.env) :: starEach [] X.env := by rfl)
    (he2 : starEach [.Call (.Name "set" p2) [e] [] q] X.env = (false, eval (.Call (.Name "set" p2) [e] [] q) X.env) :: starEach [] X.env := by rfl) : XE X T W (.Call (.Name "len" p) [.Call (.Name "set" p2) [e] [] q] [] pos) (opNE lenSetD fs) :=
  (pe_callB call_lenG hg hm (by decide +kernel) (pa_cons (pe_callTy (call_setO hc) hg2 hm2 (by decide +kernel) ha (by decide) (by decide) he rfl) pa_nil he2) (by decide) (by decide) he2 rfl).impQ fun σ H Q h => by
    obtain ⟨β, G, S, ρ, o, p⟩ := h
    refine ⟨β, G, S, ρ, o, Post.thn (Rl := RpVs X.K T σ) p fun S1 H1 ρ1 vs us e1 o1 h1 p1 => ?_⟩
    unfold liftN at p1
    split at p1
    case h_2 => exact p1.elim
    case h_1 ds hr =>
    have rh := o1.resAll h1 hr
    split at p1
    case h_2 => exact p1.elim
    case h_1 d hd =>
    unfold lenSetD at hd
    split at hd
    case h_2 => cases hd
    case h_1 x =>
    obtain ⟨u, rfl, hu⟩ := rh.one
    have cnt : ∀ {a : Addr} {ks : List Key} {n : Nat}, SqA X.K H1 a (ks.map kV) → ks.length ≤ 1000 → (uniq ks).length = n → d = .int n → ∃ a' ks', [V.ref a] = [V.ref a'] ∧ SqA X.K H1 a' (List.map kV ks') ∧ ks'.length ≤ 1000 ∧ ∀ p, H1 p = none → rLenG X.w [.ref p] (upd H1 p (SetGO X.w p ks')) Q := fun {a ks n} hq hl hn hdn =>
      ⟨a, ks, rfl, hq, hl, fun p hp => ⟨p, ks, rfl, upd_same, by
        have e2 := Ext.skip (o := SetGO X.w p ks) o1.sh hp
        subst hdn
        rw [hn]
        exact (p1.gv (o1)) _ _ _ e2 rfl⟩⟩
    split at hd
    · rename_i ns hk
      cases hd
      obtain ⟨a, ks, rfl, hq, hl, hz⟩ := keysD_of o1.sh hu hk
      rcases hz with ⟨_, hz, rfl⟩ | ⟨_, hz, rfl⟩
      · cases hz
        exact cnt hq hl (by rw [uniq_map (fun _ _ e => Sum.inl.inj e), List.length_map]) rfl
      · cases hz
    · rename_i ws hk
      cases hd
      obtain ⟨a, ks, rfl, hq, hl, hz⟩ := keysD_of o1.sh hu hk
      rcases hz with ⟨_, hz, rfl⟩ | ⟨_, hz, rfl⟩
      · cases hz
      · cases hz
        exact cnt hq hl (by rw [uniq_map (fun _ _ e => Sum.inr.inj e), List.length_map]) rfl
    · cases hd
end
end Lq
namespace Lq
open PySem PySem.Spec PyProof.Rows L2 PySem.W
/-! ### isinstance(e, C), e an error that was caught -/
section
variable {prog : Program} {w : World} {A : Around} {E : Value → Shared → Prop} {s : Shared} {K : Frag} {x D : Addr} {ox : Obj} {od : Option Obj}
theorem find_data {C : Addr} {n : Str} {a g : Value} (hc : (clsIn K C).isSome = true) (ha : findIn K (.ref C) n = some (some a)) (hg : specialIn K a "__get__" = some (some g)) (ht : takesIn K a = some true) : findObj K C od n = some (.bind g a) := by
  obtain ⟨cd, e⟩ := Option.isSome_iff_exists.mp hc
  simp [findObj, e, ha, hg, ht]
theorem class_of_err {Q : Option Value → Shared → Prop} (C : ExcC K D) (X : K.In s.heap) (I : InstAt s.heap x ox D od) (h : Q (some (.ref D)) { s with toks := s.toks + 1 }) : wpAny (model prog w) A (getAttr? (.ref x) "__class__") Q E s := by
  have found : findObj K D od "__class__" = some (.bind (.builtin "getset_descriptor.__get__") (.builtin "object.__class__")) := find_data (by obtain ⟨cd, hc, _⟩ := any_some C.hd; rw [hc]; rfl) C.ha C.hn C.ht
  obtain ⟨hp, gs, dr, tk, os⟩ := s
  have T0 := I.type (M := model prog w)
  have T1 := looks_findIn (M := model prog w) X C.hg
  have T2 := looks_findIn (M := model prog w) X C.hk
  have T3 := looks_find (M := model prog w) X I found
  have below : Looks (model prog w) hp (isInstance (.ref x) (.type "BaseException")) true := T0.andThen (looks_subIn X C.hs)
  have z0 : (false && onTheHeap (Value.builtin "BaseException.__getattribute__")) = false := rfl
  have z1 : (onTheHeap (Value.ref D) && Value.builtin "BaseException.__getattribute__" == Value.builtin "object.__getattribute__") = false := by
    rw [show (Value.builtin "BaseException.__getattribute__" == Value.builtin "object.__getattribute__") = false by decide +kernel]
    rfl
  unfold getAttr? getAttrBy? getAttrBy
  refine wpAny_bind (wpAny_mkText (wpAny_bind (wpAny_attempt (wpAny_holding (wpAny_bind (T0.at (wpAny_bind (T1.at ?_))))))))
  show wpAny _ _ (if (onTheHeap (Value.ref D) && Value.builtin "BaseException.__getattribute__" == Value.builtin "object.__getattribute__") = true then _ else _) _ _ _
  rw [z1, if_neg Bool.false_ne_true]
  unfold getAttrByItsOwn hookBefore
  refine wpAny_bind ?_
  rw [if_pos (show onTheHeap (Value.ref D) = true from rfl)]
  refine T2.at (wpAny_bind (wpAny_attempt (wpAny_holding ?_)))
  unfold callGetattribute
  rw [z0, if_neg Bool.false_ne_true]
  unfold boundAndCalled
  rw [PySem.F.excAttr_ValueError.ga.bind (.ref x)]
  refine wpAny_bind (wpAny_pure ?_)
  show wpAny _ _ (call (.builtin "BaseException.__getattribute__") [.ref x, .str "__class__" tk]) _ _ _
  refine wpAny_call (codeAny_call_builtin PySem.F.excAttr_ValueError.ga.plain PySem.F.entry_bexc_ga ?_)
  refine @check_slot (model prog w) _ _ ⟨hp, gs, dr, tk + 1, os⟩ "BaseException.__getattribute__" "BaseException" "__getattribute__" (.ref x) [.str "__class__" tk] [] _ (by decide +kernel) (by decide +kernel) below (PySem.F.args_bexc_ga (.ref x) (.str "__class__" tk)) ?_
  unfold Builtin.«object.__getattribute__»
  refine wpAny_bind (wpAny_of_eq (a := ((Value.ref x : Value), [Value.str "__class__" tk])) (by first | rfl | (simp only [slotArgs]; rfl)) (wpAny_bind (wpAny_pure (wpAny_bind (T0.at (wpAny_bind (T3.at ?_)))))))
  show wpAny _ _ (holding [Value.builtin "object.__class__"] (call (.builtin "getset_descriptor.__get__") [.builtin "object.__class__", .ref x, .ref D]) >>= ret) _ _ _
  refine wpAny_bind (wpAny_holding (wpAny_call (class_get (s := ⟨hp, gs, dr, tk + 1, os⟩) (ox := ox) (od := od) X I C.hm (wpAny_pure ?_))))
  show wpAny _ _ (handedOut (.ref D)) _ _ _
  rw [handedOut_of (v := .ref D) rfl]
  first
    | exact wpAny_pure (wpAny_pure h)
    | exact wpAny_pure h
    | exact wpAny_pure (wpAny_bind (wpAny_pure (wpAny_pure h)))
theorem kit_err (C : ExcC K D) : KitX K (.ref x) (.ref D) (fun h => ∃ ox od, InstAt h x ox D od) where
  ty := fun _ _ _ ⟨_, _, I⟩ => I.type
  it := fun _ _ X _ => by
    obtain ⟨cdD, q, _⟩ := any_some C.hd
    unfold clsIn at q
    split at q
    · rename_i ho
      intro A' Q' E' s' k r
      unfold isType loadHead
      exact wpAny_bind (wpAny_loadPart (k _ _ (X _ _ ho)) (wpAny_pure r))
    · cases q
  ne := fun h tp dd its n sl X htp => by
    obtain ⟨cdD, q, _⟩ := any_some C.hd
    refine Bool.eq_false_iff.mpr fun y => ?_
    obtain rfl : D = tp := Value.ref.inj (beq_iff_eq.mp y)
    unfold clsIn at q
    split at q
    · rename_i ho
      cases (X _ _ ho).symm.trans htp
    · cases q
  ca := fun X ⟨_, _, I⟩ k => class_of_err C X I k
end
def rIsK (K : PySem.W.Frag) : List V → Hp → VK → Prop := fun xs H Q => ∃ (a C dd : Addr) (fs : List (Str × V)) (c : V) (cv : Value) (b : Bool), xs = [.ref a, c] ∧ (∀ u, RelV c u → u = cv) ∧ ExcC K C ∧ H a = some (ExK C dd a) ∧ H dd = some (.xd fs) ∧ PySem.W.kitOne K (.ref C) cv = some b ∧ Q (.bl b) H
theorem call_isK {X : Cx} : CallR X (.builtin "isinstance") (rIsK X.K) := by
  intro pins s σ H xs us Q I r h
  obtain ⟨a, C, dd, fs, c, cv, b, rfl, hcv, eC, ea, ed, e, q⟩ := h
  cases r with
  | cons rx rr =>
    cases rr with
    | cons rt rr =>
      cases rr
      cases rx
      obtain rfl := hcv _ rt
      obtain ⟨⟨oe, vs, ha, hz, hd⟩, _⟩ : ObjOk X.prog X.w H s.heap a (ExK C dd a) := I.hok a _ ea
      have hx : ObjOk X.prog X.w H s.heap dd (.xd fs) := I.hok dd _ ed
      obtain ⟨mA, hns, hr⟩ := hx
      obtain ⟨od, ho, hl⟩ := lookIn_ns hns
      have J : PySem.W.InstAt s.heap a oe C (some od) := ⟨ha, hz.1, by unfold PySem.W.notCls; rw [hd] <;> rfl, by rw [hz.2]; exact ho⟩
      exact PySem.W.kia_one (kit_err eC) I.kIn ⟨oe, _, J⟩ e (fun z => nomatch z) fun tk => ⟨.bl b, H, I.kept (t' := tk) fun _ _ z => z, rfl, q⟩
/-- isinstance of an error: the answers by its class -/
def isErrD (ex : List (Nat × Bool)) : D → Option D
  | .obj t [_] => if isEx t then (match ex.lookup t with | some b => some (.bl b) | none => none) else none
  | _ => none
section
variable {X : Cx} {T : Tb} {W : WX} {e : Expr} {fa : Rho → R VD} {p p2 pos : Pos} {ex : List (Nat × Bool)}
theorem isErr_of {K : PySem.W.Frag} {c : V} {cv : Value} {te : TE} {σ : L2.St} {H : Hp} {Q : VK} (hT : ∀ t b, ex.lookup t = some b → ExcC K (T t) ∧ PySem.W.kitOne K (.ref (T t)) cv = some b) (hcv : ∀ u, RelV c u → u = cv) (h : rE K T W (op1E (isErrD ex) fa) σ H Q)
    (hc : ∀ H' Q', Q' c H' → te σ H' Q') : rE K T W fa σ H fun x H1 => te σ H1 fun y H2 => rIsK K [x, y] H2 Q := by
  obtain ⟨β, G, S, ρ, o, p⟩ := h
  refine ⟨β, G, S, ρ, o, Post.thn (Rl := RpV K T σ) p fun S1 H1 ρ1 v u e1 o1 h1 p1 => hc _ _ ?_⟩
  refine Post.lift1 (r := fun x H1 Q => rIsK K [x, c] H1 Q) ?_ o1 h1 p1
  intro S H x dx d Q e hx hd g
  unfold isErrD at hd
  split at hd
  case h_2 => cases hd
  case h_1 t d0 =>
  split at hd
  case isFalse => cases hd
  case isTrue ie =>
  split at hd
  case h_2 => cases hd
  case h_1 b hb =>
  cases hd
  obtain ⟨t1, t2⟩ := hT t b hb
  rcases hx with ⟨a, vs, rfl, ob, rps⟩ | ⟨_, _, _, _, z, _⟩
  · rcases ob with ⟨_, dd, s1, s2⟩ | ⟨z, _⟩
    · exact ⟨a, T t, dd, _, c, cv, b, rfl, hcv, t1, e _ _ s1, e _ _ s2, t2, g.now e rfl⟩
    · rw [z] at ie; cases ie
  · cases z
theorem xe_isErr {x : Str} {C : Addr} (hz : X.mg "isinstance" = none) (hm : X.mg x = some (.ref C)) (hT : ∀ t b, ex.lookup t = some b → ExcC X.K (T t) ∧ PySem.W.kitOne X.K (.ref (T t)) (.ref C) = some b) (ha : XE X T W e fa) (hgx : L2.Gl X x := by rfl) (hdx : (x == ("__debug__" : Str)) = false := by decide)
    (hg : L2.Gl X "isinstance" := by rfl) (he : starEach [e, .Name x p2] X.env = (false, eval e X.env) :: starEach [.Name x p2] X.env := by rfl) (he2 : starEach [.Name x p2] X.env = (false, eval (.Name x p2) X.env) :: starEach [] X.env := by rfl) :
    XE X T W (.Call (.Name "isinstance" p) [e, .Name x p2] [] pos) (op1E (isErrD ex) fa) :=
  (pe_callB call_isK hg hz (by decide +kernel) (pa_cons ha (pa_cons (pe_glob (v := .ref C) hgx hm rfl hdx) pa_nil he2) he) (by decide) (by decide) he (by rw [he2]; rfl)).impQ fun σ H Q h =>
    isErr_of (c := .ref C) (te := tC (.ref C)) hT (fun _ z => z) h fun _ _ q => q
theorem xe_isErrB {x : Str} {n : String} (hz : X.mg "isinstance" = none) (hm : X.mg x = none) (hv : bootBuiltins x = some (.type n)) (hT : ∀ t b, ex.lookup t = some b → ExcC X.K (T t) ∧ PySem.W.kitOne X.K (.ref (T t)) (.type n) = some b) (ha : XE X T W e fa) (hgx : L2.Gl X x := by rfl) (hdx : (x == ("__debug__" : Str)) = false := by decide) (hn : x ≠ "__name__" := by decide)
    (hg : L2.Gl X "isinstance" := by rfl) (he : starEach [e, .Name x p2] X.env = (false, eval e X.env) :: starEach [.Name x p2] X.env := by rfl) (he2 : starEach [.Name x p2] X.env = (false, eval (.Name x p2) X.env) :: starEach [] X.env := by rfl) :
    XE X T W (.Call (.Name "isinstance" p) [e, .Name x p2] [] pos) (op1E (isErrD ex) fa) :=
  (pe_callB call_isK hg hz (by decide +kernel) (pa_cons ha (pa_cons (pe_bltn (v := .ty n) hgx hm hv rfl hn hdx) pa_nil he2) he) (by decide) (by decide) he (by rw [he2]; rfl)).impQ fun σ H Q h =>
    isErr_of (c := .ty n) (te := tC (.ty n)) hT (fun _ z => z) h fun _ _ q => q
end
theorem exi_nil {K : PySem.W.Frag} {T : Tb} {c : Value} : ∀ t b, List.lookup t ([] : List (Nat × Bool)) = some b → ExcC K (T t) ∧ PySem.W.kitOne K (.ref (T t)) c = some b := fun t b h => by cases h
theorem exi_cons {K : PySem.W.Frag} {T : Tb} {c : Value} {t0 : Nat} {b0 : Bool} {r : List (Nat × Bool)} (h0 : ExcC K (T t0)) (h : PySem.W.kitOne K (.ref (T t0)) c = some b0) (hr : ∀ t b, List.lookup t r = some b → ExcC K (T t) ∧ PySem.W.kitOne K (.ref (T t)) c = some b) :
    ∀ t b, List.lookup t ((t0, b0) :: r) = some b → ExcC K (T t) ∧ PySem.W.kitOne K (.ref (T t)) c = some b := fun t b q => by
  rw [List.lookup_cons] at q
  by_cases e : t = t0
  · subst e
    simp at q
    rw [← q]; exact ⟨h0, h⟩
  · have : (t == t0) = false := by simpa using e
    rw [this] at q
    exact hr t b q
end Lq
namespace Lq
open PySem PySem.Spec PyProof.Rows L2
/-! ### keywords in any order -/
section
variable {X : Cx} {T : Tb} {W : WX} {e : Expr} {es : List Expr} {fs : Rho → R (List VD)} {pos : Pos}
/-- the values by the parameters' order: pm tells where each stands among the keywords -/
def permL {α : Type} (pm : List Nat) (xs : List α) : List α := pm.filterMap fun i => xs[i]?
def KwP (K : PySem.W.Frag) (fd : FuncData) (ps ks : List Str) (pm : List Nat) : Prop := ∀ (s : Shared) (ws : List Value), K.In s.heap → ws.length = ks.length → BindsTo s fd ⟨[], ks.zip ws⟩ (ps.zip (permL pm ws))
theorem kwP_of {K : PySem.W.Frag} {x qual : Str} {st : Stmt} {f : Addr} {fd : FuncData} {ps ks : List Str} {pm : List Nat} (F : Fun K x qual st f fd)
    (h : ∀ (kV doc pmv : Value) (an : Option Addr) (cdv ct : Value) (ws : List Value), ws.length = ks.length → bindArgs (PySem.W.fnOf x qual (defArgs st) (defBody st) (defScope st) .none kV doc pmv an cdv ct) ⟨[], ks.zip ws⟩ = pure (ps.zip (permL pm ws))) : KwP K fd ps ks pm := by
  obtain ⟨oc, od, kV, doc, pmv, an, cdv, ct, osl, rfl, lk, hcd⟩ := F.ex
  exact fun s ws _ hl => .of_eq (h kV doc pmv an cdv ct ws hl)
theorem Vals.perm {pm : List Nat} {vs : List V} {us : List Value} (r : Vals vs us) : Vals (permL pm vs) (permL pm us) := by
  induction pm with
  | nil => exact .nil
  | cons i pm ih =>
    unfold permL at ih ⊢
    rw [List.filterMap_cons, List.filterMap_cons]
    cases q : vs[i]? with
    | none =>
      have : us[i]? = none := by
        rw [List.getElem?_eq_none_iff] at q ⊢
        rw [← r.length]; exact q
      rw [this]; exact ih
    | some v =>
      obtain ⟨u, hu, ru⟩ := r.get q
      rw [hu]; exact .cons ru ih
def tCallSp (sp : Sp) (E : L2.St → L2.XK) (pm : List Nat) (t : TA) : TE := fun σ H Q => t σ H fun vs H1 => sp (permL pm vs) H1 Q (E σ)
theorem pe_kwp {CX : CXT} {k : Nat} {f : Addr} {fd : FuncData} {ps ks : List Str} {pm : List Nat} {sp : Sp} {E : L2.St → L2.XK} {x : Str} {p : Pos} {kws : List Keyword} {tk : TA} (Fk : FnOk X.prog X.w X.K X.mg X.base CX k f fd ps sp) (hr : Room k X.A) (hg : L2.Gl X x) (hm : X.mg x = some (.ref f)) (hk : PySem.W.keepIn X.K (.ref f) = true) (hb : KwP X.K fd ps ks pm) (hx : ∀ σ, PassesAt CX X σ (E σ))
    (hkw : PK X kws tk) (hlen : ∀ {σ H Q}, tk σ H Q → tk σ H fun vs H1 => vs.length = ks.length ∧ Q vs H1) (hall : (backToKw pos (keywordEach kws X.env)).all (·.1.isSome) = true := by rfl) (hks : (backToKw pos (keywordEach kws X.env)).filterMap (·.1) = ks := by rfl)
    (hdb : (x == ("__debug__" : Str)) = false := by decide) (hpl : ((backTo pos (starEach [] X.env)).any (·.1) || (backToKw pos (keywordEach kws X.env)).any (·.1.isNone)) = false := by rfl) :
    PE X (.Call (.Name x p) [] kws pos) (tCallSp sp E pm tk) := by
  refine ⟨fun pins s σ H Q I h => wpAny_Call_Name_kw (ld_glob I hg hm ?_ hdb)⟩
  refine PySem.W.callWith_KW0 (h₀ := X.base) I.ok.mod.kin hk hall (thn (hkw.run pos pins s σ H _ I (hlen h)) fun ws s2 ⟨zs, H2, I2, rz, hl, q2⟩ => ⟨I2.kIn, ?_⟩) hpl
  rw [hks]
  have hl2 : ws.length = ks.length := rz.length.symm.trans hl
  refine wpAny_call (codeAny_mono (Fk.run X.A X.stack s2 H2 ⟨[], ks.zip ws⟩ (permL pm ws) (permL pm zs) Q (E σ) hr I2.env0 (hb s2 ws I2.kIn hl2) (Lq.Vals.perm rz) q2) fun r s' hq => ?_)
  cases r with
  | error e => exact hx σ pins H2 s2 e s' I2 hq
  | ok fl => cases fl with
    | ret u => exact I2.after hq
    | _ => exact hq.elim
theorem RpVs.perm {K : PySem.W.Frag} {σ : L2.St} {S : Hp} {pm : List Nat} {vs : List VD} {us : List V} (h : RpVs K T σ S vs us) : RpVs K T σ S (permL pm vs) (permL pm us) := by
  have get : ∀ {vs : List VD} {us : List V} (i : Nat), RpVs K T σ S vs us → (vs[i]? = none ∧ us[i]? = none) ∨ ∃ v u, vs[i]? = some v ∧ us[i]? = some u ∧ RpV K T σ S v u := by
    intro vs
    induction vs with
    | nil => intro us i h; rw [show us = [] from h]; exact .inl ⟨rfl, rfl⟩
    | cons v vs ih =>
      intro us i h
      obtain ⟨u, r, rfl, h1, h2⟩ := h
      cases i with
      | zero => exact .inr ⟨v, u, rfl, rfl, h1⟩
      | succ i => exact ih i h2
  induction pm with
  | nil => exact rfl
  | cons i pm ih =>
    unfold permL at ih ⊢
    rw [List.filterMap_cons, List.filterMap_cons]
    rcases get i h with ⟨a, b⟩ | ⟨v, u, a, b, r⟩
    · rw [a, b]; exact ih
    · rw [a, b]; exact ⟨u, _, rfl, r, ih⟩
/-- the values, by the parameters -/
def permA (n : Nat) (pm : List Nat) (fs : Rho → R (List VD)) : Rho → R (List VD) := fun ρ => (fs ρ).bind fun vs ρ1 => if vs.length = n then .ok (permL pm vs) ρ1 else .bad
theorem RpVs.length {K : PySem.W.Frag} {σ : L2.St} {S : Hp} : ∀ {vs : List VD} {us : List V}, RpVs K T σ S vs us → us.length = vs.length
  | [], _, h => by rw [show _ = [] from h]; rfl
  | _ :: _, _, ⟨u, r, e1, h, hs⟩ => by rw [e1, List.length_cons, List.length_cons, RpVs.length hs]
theorem xe_callKp {F : List D → Res} {k nk : Nat} {f : Addr} {fd : FuncData} {ps ks : List Str} {pm : List Nat} {n : Nat} {x : Str} {p : Pos} {kws : List Keyword} (Fk : FnOk X.prog X.w X.K X.mg X.base (L2.CX X.prog X.w) k f fd ps (spP X.K T n F)) (hr : Room k X.A) (hm : X.mg x = some (.ref f)) (hk : PySem.W.keepIn X.K (.ref f) = true) (hb : KwP X.K fd ps ks pm)
    (tk : Takes X W) (hn : ∀ ds, F ds ≠ .bad → ds.length = n) (ha : XK X T W kws fs) (hnk : ks.length = nk := by rfl) (hg : L2.Gl X x := by rfl) (hall : (backToKw pos (keywordEach kws X.env)).all (·.1.isSome) = true := by rfl) (hks : (backToKw pos (keywordEach kws X.env)).filterMap (·.1) = ks := by rfl)
    (hdb : (x == ("__debug__" : Str)) = false := by decide) (hpl : ((backTo pos (starEach [] X.env)).any (·.1) || (backToKw pos (keywordEach kws X.env)).any (·.1.isNone)) = false := by rfl) :
    XE X T W (.Call (.Name x p) [] kws pos) (callE F (permA nk pm fs)) := by
  subst hnk
  have ha' : PK X kws (fun σ H Q => rA X.K T W fs σ H fun us H1 => us.length = ks.length ∧ Q us H1) := ⟨fun pos pins s σ H Q I h => by
    refine thn (PK.run ha pos pins s σ H _ I h) fun us s1 ⟨vs, H1, I1, r1, hl, q⟩ => ⟨vs, H1, I1, r1, q⟩⟩
  refine (pe_kwp (E := WE W) Fk hr hg hm hk hb (fun σ => passAt tk σ) ha' (fun {σ H Q} h => ?_) hall hks hdb hpl).impQ fun σ H Q h => ?_
  · obtain ⟨β, G, S, ρ, o, p⟩ := h
    refine ⟨β, G, S, ρ, o, ?_⟩
    revert p
    cases fs ρ with
    | ok a ρ1 => exact fun p S' H' u e o r => ⟨(p S' H' u e o r).1, (p S' H' u e o r).1, (p S' H' u e o r).2⟩
    | err x ρ1 => exact fun p => p
    | bad => exact fun p => p
  · have h2 := call_of hn h
    obtain ⟨β, G, S, ρ, o, p⟩ := h2
    refine ⟨β, G, S, ρ, o, ?_⟩
    unfold permA at p
    revert p
    cases fs ρ with
    | bad => exact fun p => p
    | err x ρ1 => exact fun p => p
    | ok vs ρ1 =>
      intro p S' H' us e o' r
      dsimp only [R.bind] at p
      split at p
      · rename_i hl
        exact ⟨r.length.trans hl, p S' H' _ e o' r.perm⟩
      · exact p.elim
end
end Lq
namespace Lq
open PySem PySem.Spec PyProof.Rows L2
/-! ### the law's own promise, whatever the table of classes -/
def spA (K : PySem.W.Frag) (n : Nat) (F : List D → Res) : Sp := fun vs H Q E => ∀ T, spP K T n F vs H Q E
/-! ### enumerate of lists and tuples, from any count -/
theorem meets_enum1 {v : Value} {o : Obj} {H : Heap → Prop} (B : Begins v o H) : Meets (Builtin.«enumerate.__new__» ⟨[.type "enumerate", v], []⟩) (fun _ R s => H s.heap ∧
      R (.ok (.ret (.ref (s.heap.push o).objs.size))) { s with heap := (s.heap.push o).push { cls := .type "enumerate", data := .fields #[.none, .bool false, .ref s.heap.objs.size, rawInt 0, .none, .none] } }) :=
  .of_wp fun prog w A R s ⟨h1, h⟩ => by
    obtain ⟨hp, gs, dr, tk, os⟩ := s
    have below := sub_enumerate
    have q1 : ∀ {A' : Around} {E : Value → Shared → Prop} {Q : Value → Shared → Prop}, Q (.ref hp.objs.size) ⟨hp.push o, gs, dr, tk, os⟩ → wpAny (model prog w) A' (pyIter v) Q E ⟨hp, gs, dr, tk, os⟩ := fun q => B.iter prog w _ _ ⟨hp, gs, dr, tk, os⟩ _ h1 q
    wp_walk using q1
    refine wpAny_stack_any fun st => wpAny_pure ?_
    split
    · rename_i c _ _ _ _ _
      cases (c == Value.type "enumerate") <;> (wp_walk using q1; exact ⟨_, rfl, h⟩)
    · wp_walk using q1
      exact ⟨_, rfl, h⟩
section
variable {prog : Program} {w : World} {A : Around} {E : Value → Shared → Prop} {s : Shared}
theorem enum_begin1 {v : Value} {o : Obj} {H : Heap → Prop} {Q : Value → Shared → Prop} (B : Begins v o H) (h1 : H s.heap)
    (h : ∀ h', IsEnum h' (s.heap.objs.size + 1) s.heap.objs.size 0 .none → h'.get? s.heap.objs.size = some o → (∀ b o, s.heap.get? b = some o → h'.get? b = some o) → Q (.ref (s.heap.objs.size + 1)) { s with heap := h' }) :
    wpAny (model prog w) A (call (.type "enumerate") [v]) Q E s := by
  refine callType_new F.called_enumerate (by decide) (F.typeCall_enumerate_1 _) (F.newCall_enumerate_1 _) (fun obj => F.args_object_init_2 obj _) F.entry_enumerate_new (meets_enum1 B) ⟨h1, ?_⟩
  have sz : (s.heap.push o).objs.size = s.heap.objs.size + 1 := Heap.size_push ..
  show _ ∧ _
  rw [sz]
  have en : IsEnum ((s.heap.push o).push { cls := .type "enumerate", data := .fields #[.none, .bool false, .ref s.heap.objs.size, rawInt 0, .none, .none] }) (s.heap.objs.size + 1) s.heap.objs.size 0 .none := by
    have z := Heap.get?_push_size (s.heap.push o) (o := { cls := .type "enumerate", data := .fields #[.none, .bool false, .ref s.heap.objs.size, rawInt 0, .none, .none] }) rfl
    rwa [sz] at z
  exact ⟨⟨_, en, rfl⟩, h _ en (Heap.get?_push_of_some _ (Heap.get?_push_size _ B.free)) fun b o x => Heap.get?_push_of_some _ (Heap.get?_push_of_some _ x)⟩
end
/-- the items xs of the list or tuple at a, each in a new pair, counted from k -/
def Itn2 (Sq : Hp → Prop) (xs : List V) (k : Int) : It :=
  ⟨fun i H => Sq H ∧ i < xs.length, fun i H v H' => ∃ T x, v = .ref T ∧ H T = none ∧ H' = upd H T (.tup [.int (k + (i : Nat)), x]) ∧ xs[i]? = some x, fun i H => Sq H ∧ i = xs.length⟩
/-- what a kind of sequence has to say: where its items lie, how its iterator draws -/
structure SeqK (P : Program) (w : World) (K : PySem.W.Frag) (a it : Addr) (Sq : Hp → Prop) (xs : List V) (ItA : Nat → Heap → Prop) (At : Heap → Array Value → Prop) : Prop where
  inv : ∀ {X : Cx} {pins : List (Addr × Obj)} {σ : L2.St} {H : Hp} {s : Shared}, X.K = K → Inv X pins σ H s → Sq H → ∃ its : List Value, Vals xs its ∧ At s.heap its.toArray
  draw : ∀ {A : Around} (items : Array Value), A.handled = none → Draws P w A it [it, a] items.size (fun i v => items[i]? = some v) (fun i h => ItA i h ∧ At h items)
  at_ : ∀ {i : Nat} {h h' : Heap}, ItA i h → (∀ o, h.get? it = some o → h'.get? it = some o) → ItA i h'
  obj : ∀ {i : Nat} {h : Heap}, ItA i h → ∃ o, h.get? it = some o ∧ ∀ v, o.data ≠ .cell v
  ne : a ≠ it
  there : ∀ {h : Heap} {items : Array Value}, At h items → a < h.objs.size
theorem turn_enumG {P : Program} {w : World} {K : PySem.W.Frag} {elts : List Expr} {kk : Nat} {tpos : Pos} {a e it : Addr} {Sq : Hp → Prop} {xs : List V} {ItA : Nat → Heap → Prop} {At : Heap → Array Value → Prop} {k : Int} (S : SeqK P w K a it Sq xs ItA At) (hae : a ≠ e) :
    Turn P w K (.Tuple elts kk tpos) (Itn2 Sq xs k) [e, it] e (fun i h => (∃ old, IsEnum h e it (k + (i : Nat)) old) ∧ ItA i h ∧ e ≠ it) where
  mem := List.mem_cons_self
  obj := fun i h ⟨⟨old, he⟩, hi, _⟩ b hb => by
    rcases List.mem_cons.1 hb with z | z
    · subst z; exact ⟨_, he, fun v q => nomatch q⟩
    · rw [List.mem_singleton.1 z]; exact S.obj hi
  keep := fun i h h' ⟨⟨old, he⟩, hi, hne⟩ kp => ⟨⟨old, kp e List.mem_cons_self _ he⟩, S.at_ hi fun o q => kp it (List.mem_cons_of_mem _ List.mem_cons_self) o q, hne⟩
  item := by
    rintro X rfl rfl hK hc i pins s σ H E I hf ⟨⟨old, he⟩, hit, hne⟩ ⟨hq, hi⟩
    obtain ⟨its, rv, at1⟩ := S.inv hK I hq
    obtain ⟨x, hx⟩ : ∃ x, xs[i]? = some x := ⟨_, List.getElem?_eq_getElem hi⟩
    have hel : e < s.heap.objs.size := Heap.lt_size he
    have hil : it < s.heap.objs.size := by obtain ⟨o, q, _⟩ := S.obj hit; exact Heap.lt_size q
    have hs : i < its.toArray.size := by rw [List.size_toArray, ← rv.length]; exact hi
    have D := S.draw (A := X.A.in1) its.toArray (by rw [← I.ok.hd hc])
    refine wpAny_pyNext_enum_itemC D he ⟨hit, at1⟩ hs hne (fun z => ?_) fun u h' tk hu out st' hT hsz hk => ?_
    · rcases List.mem_cons.1 z with z | z
      · exact hne z
      · exact hae (List.mem_singleton.1 z).symm
    obtain ⟨u', hu', ru⟩ := rv.get hx
    have eu : u = u' := by rw [List.getElem?_toArray, hu'] at hu; exact (Option.some.inj hu).symm
    subst eu
    refine ⟨_, rfl, wpAny_letOwnedTupleGo_enum (s := { s with heap := h', toks := tk + 1 }) out fun h'' he' sb => ?_⟩
    have hT2 : h''.get? s.heap.objs.size = some { cls := .type "tuple", data := .seq #[.int (k + (i : Nat)) tk, u] } := (sb.2 _ (Nat.ne_of_gt hel)).trans hT
    have new : ObjOk X.prog X.w (upd H s.heap.objs.size (.tup [.int (k + (i : Nat)), x])) h'' s.heap.objs.size (.tup [.int (k + (i : Nat)), x]) := ⟨by show 2 ≤ sizeLine; decide, [.int (k + (i : Nat)) tk, u], .cons ⟨_, rfl⟩ (.cons ru .nil), ⟨_, hT2, rfl, _, rfl⟩⟩
    have I1 : Inv X pins σ (upd H s.heap.objs.size (.tup [.int (k + (i : Nat)), x])) { s with heap := h'', toks := tk + 1 } :=
      I.turnedNew (ch := [e, it]) (fun b ob hb q => (sb.2 b (fun z => hb (z ▸ List.mem_cons_self))).trans (hk b ob (fun z => hb (z ▸ List.mem_cons_self)) (fun z => hb (z ▸ List.mem_cons_of_mem _ List.mem_cons_self)) q)) hf (Nat.le_refl _) new
    refine ⟨.ref s.heap.objs.size, _, I1, rfl, ⟨_, x, rfl, I.hok.fresh (Nat.le_refl _), rfl, hx⟩, ⟨⟨u, ?_⟩, S.at_ st'.1 fun o q => (sb.2 it (Ne.symm hne)).trans q, hne⟩, fun b hb => ?_⟩
    · rw [show k + ((i + 1 : Nat) : Int) = k + (i : Nat) + 1 by omega]; exact he'
    · have lb : b < s.heap.objs.size := by
        rcases List.mem_cons.1 hb with z | z
        · rw [z]; exact hel
        · rw [List.mem_singleton.1 z]; exact hil
      rw [upd_ne (Nat.ne_of_lt lb)]
      exact (hf b hb).1
  done := by
    rintro X rfl rfl hK hc i pins s σ H E I hf ⟨⟨old, he⟩, hit, hne⟩ ⟨hq, rfl⟩
    obtain ⟨its, rv, at1⟩ := S.inv hK I hq
    obtain ⟨f0, f1, f2, f3, f4, f5⟩ := hf it (List.mem_cons_of_mem _ List.mem_cons_self)
    have D := S.draw (A := X.A.in1) its.toArray (by rw [← I.ok.hd hc])
    have hl : its.toArray.size = xs.length := by rw [List.size_toArray, ← rv.length]
    rw [hl] at D
    exact wpAny_pyNext_enum_endD D he ⟨hit, at1⟩ fun h' eb => ⟨rfl, I.turned (t' := s.toks) (fun b o hb q => eb b o hb q) f0 f1 f3 f4 f5⟩
  self := fun A i s Q E ⟨⟨_, he⟩, _⟩ h => wpAny_pyIter_enum he h
theorem seqK_list {P : Program} {w : World} {K : PySem.W.Frag} {a it : Addr} {xs : List V} (hne : a ≠ it) : SeqK P w K a it (fun H => SqL K H a xs) xs (fun i h => h.IsListIter it a i) (fun h items => h.IsList a items) where
  inv := fun hK I hq => by
    subst hK
    obtain ⟨its, rv, p, hz⟩ := I.list hq
    exact ⟨its, rv, p.isList⟩
  draw := fun items hh => Draws.list hh it a hne items
  at_ := fun hi q => hi.at q
  obj := fun ⟨o, ho, hc, hd⟩ => ⟨o, ho, fun v q => by rw [hd] at q; cases q⟩
  ne := hne
  there := fun ⟨o, ho, _⟩ => Heap.lt_size ho
theorem seqK_tup {P : Program} {w : World} {K : PySem.W.Frag} {a it : Addr} {xs : List V} (hne : a ≠ it) : SeqK P w K a it (fun H => SqT K H a xs) xs (fun i h => h.IsTupleIter it a i) (fun h items => h.IsTuple a items) where
  inv := fun hK I hq => by
    subst hK
    obtain ⟨its, rv, p, hz⟩ := I.tuple hq
    exact ⟨its, rv, p⟩
  draw := fun items hh => Draws.tuple hh it a hne items
  at_ := fun hi q => hi.at q
  obj := fun ⟨o, ho, hc, hd⟩ => ⟨o, ho, fun v q => by rw [hd] at q; cases q⟩
  ne := hne
  there := fun ⟨o, ho, _⟩ => Heap.lt_size ho
/-- enumerate(e), enumerate(e, k) -/
def iEnumG (K : PySem.W.Frag) (k : Int) (ta : TA) (ok : List V → V → Prop) : TI := fun σ H R => ta σ H fun vs H1 => ∃ a xs, ok vs (.ref a) ∧ ((SqL K H1 a xs ∧ R (Itn2 (fun H => SqL K H a xs) xs k) H1) ∨ (SqT K H1 a xs ∧ R (Itn2 (fun H => SqT K H a xs) xs k) H1))
section
variable {X : Cx} {e e2 : Expr} {ta : TA} {p pos tpos : Pos} {elts : List Expr} {kk : Nat}
theorem enum_done {pins : List (Addr × Obj)} {σ : L2.St} {H1 : Hp} {s1 : Shared} {R : It → Hp → Prop} {a : Addr} {xs : List V} {k : Int} {h' : Heap} {Sq : Hp → Prop} {ItA : Nat → Heap → Prop} {At : Heap → Array Value → Prop} (I1 : Inv X pins σ H1 s1) (la : a < s1.heap.objs.size) (he : IsEnum h' (s1.heap.objs.size + 1) s1.heap.objs.size k .none) (hk : ∀ b o, s1.heap.get? b = some o → h'.get? b = some o)
    (S : SeqK X.prog X.w X.K a s1.heap.objs.size Sq xs ItA At) (st : ItA 0 h') (q : R (Itn2 Sq xs k) H1) : wpAny (model X.prog X.w) X.A (pyIter (.ref (s1.heap.objs.size + 1))) (PIE X pins σ (.Tuple elts kk tpos) R) X.xe { s1 with heap := h' } := by
  refine wpAny_pyIter_enum he ⟨s1.heap.objs.size + 1, [s1.heap.objs.size + 1, s1.heap.objs.size], _, _, H1, rfl, I1.kept (t' := s1.toks) hk, turn_enumG (k := k) S (Nat.ne_of_lt (Nat.lt_succ_of_lt la)), ⟨⟨.none, ?_⟩, st, Nat.succ_ne_self _⟩, fun b hb => ?_, q⟩
  · rw [show k + ((0 : Nat) : Int) = k by omega]; exact he
  · have le : s1.heap.objs.size ≤ b := by
      rcases List.mem_cons.1 hb with z | z
      · rw [z]; exact Nat.le_succ _
      · rw [List.mem_singleton.1 z]; exact Nat.le_refl _
    exact I1.fpOk le (I1.hok.fresh le)
theorem pi_enumG (hg : L2.Gl X "enumerate") (hm : X.mg "enumerate" = none) (ha : PA X [e] ta) (hs : starEach [e] X.env = [(false, eval e X.env)] := by rfl) :
    PI X (.Tuple elts kk tpos) (.Call (.Name "enumerate" p) [e] [] pos) (iEnumG X.K 0 ta fun vs r => vs = [r]) := by
  refine ⟨fun pins s σ H R I h => Call_ (ld_blt I hg hm boot_enumerate (PyProof.Rows.callWith_type1 (thn (ha.run pos pins s σ H _ I h) fun us s1 ⟨vs, H1, I1, r1, a, xs, ex, q1⟩ => ?_) hs rfl))⟩
  subst ex
  rw [Vals.ref1 r1]
  rcases q1 with ⟨hq, q⟩ | ⟨hq, q⟩
  · obtain ⟨its, rv, p', hz⟩ := I1.list hq
    have la : a < s1.heap.objs.size := by obtain ⟨o, ho, _⟩ := p'.isList; exact Heap.lt_size ho
    exact enum_begin1 (begins_list a _) p'.isList fun h' he hit hk => enum_done I1 la he hk (seqK_list (Nat.ne_of_lt la)) ⟨_, hit, rfl, rfl⟩ q
  · obtain ⟨its, rv, p', hz⟩ := I1.tuple hq
    have la : a < s1.heap.objs.size := by obtain ⟨o, ho, _⟩ := p'; exact Heap.lt_size ho
    exact enum_begin1 (begins_tuple a _) p' fun h' he hit hk => enum_done I1 la he hk (seqK_tup (Nat.ne_of_lt la)) ⟨_, hit, rfl, rfl⟩ q
theorem pi_enumK (k : Int) (hg : L2.Gl X "enumerate") (hm : X.mg "enumerate" = none) (ha : PA X [e, e2] ta) (hk0 : -(2 ^ 63) ≤ k) (hk1 : k < 2 ^ 63) (hs : starEach [e, e2] X.env = (false, eval e X.env) :: starEach [e2] X.env := by rfl) (hp : (backTo pos (starEach [e2] X.env)).any (·.1) = false := by rfl) :
    PI X (.Tuple elts kk tpos) (.Call (.Name "enumerate" p) [e, e2] [] pos) (iEnumG X.K k ta fun vs r => vs = [r, .int k]) := by
  refine ⟨fun pins s σ H R I h => Call_ (ld_blt I hg hm boot_enumerate (PyProof.Rows.callWith_type1 (thn (ha.run pos pins s σ H _ I h) fun us s1 ⟨vs, H1, I1, r1, a, xs, ex, q1⟩ => ?_) hs hp))⟩
  subst ex
  cases r1 with
  | cons ra rr =>
    cases rr with
    | cons rk rr =>
      cases rr
      cases ra
      obtain ⟨t, rfl⟩ := rk
      rcases q1 with ⟨hq, q⟩ | ⟨hq, q⟩
      · obtain ⟨its, rv, p', hz⟩ := I1.list hq
        have la : a < s1.heap.objs.size := by obtain ⟨o, ho, _⟩ := p'.isList; exact Heap.lt_size ho
        exact enum_begins (begins_list a _) p'.isList hk0 hk1 fun h' he hit _ hk => enum_done I1 la he hk (seqK_list (Nat.ne_of_lt la)) ⟨_, hit, rfl, rfl⟩ q
      · obtain ⟨its, rv, p', hz⟩ := I1.tuple hq
        have la : a < s1.heap.objs.size := by obtain ⟨o, ho, _⟩ := p'; exact Heap.lt_size ho
        exact enum_begins (begins_tuple a _) p' hk0 hk1 fun h' he hit _ hk => enum_done I1 la he hk (seqK_tup (Nat.ne_of_lt la)) ⟨_, hit, rfl, rfl⟩ q
end
/-! over plain data -/
def enumDk (k : Int) (ds : List D) : List D := ds.zipIdx.map fun p => D.tup [.int (k + (p.2 : Nat)), p.1]
theorem enumDk_zero (ds : List D) : enumDk 0 ds = enumD ds := by
  unfold enumDk enumD
  exact List.map_congr_left fun p _ => by rw [Int.zero_add]
def enumA (fs : Rho → R (List VD)) : Rho → R (List D) := fun ρ => (fs ρ).bind fun vs ρ1 => match vs with
  | [.d (.lst ds)] => .ok (enumD ds) ρ1
  | [.d (.tup ds)] => .ok (enumD ds) ρ1
  | [.sl i] => (match ρ1[i]? with | some (.m xs) => .ok (enumD xs) (ρ1.set i (.d (.lst xs))) | _ => .bad)
  | _ => .bad
def enumK (k : Int) (fs : Rho → R (List VD)) : Rho → R (List D) := fun ρ => (fs ρ).bind fun vs ρ1 => match vs with
  | [.d (.lst ds), .d (.int j)] => if j = k then .ok (enumDk k ds) ρ1 else .bad
  | [.d (.tup ds), .d (.int j)] => if j = k then .ok (enumDk k ds) ρ1 else .bad
  | _ => .bad
section
variable {K : PySem.W.Frag} {T : Tb} {S : Hp}
theorem wk_enumG {Sq : Hp → Prop} {ds : List D} {vs : List V} {k : Int} (hs : ∀ S1 H1, Same S S1 → Same S1 H1 → Sq H1) (r : Rps K T S ds vs) : Wk K T S (enumDk k ds) (Itn2 Sq vs k) := fun S1 H1 e1 e2 i => by
  unfold enumDk
  refine ⟨fun d hd => ?_, fun hl => ?_⟩
  · rw [List.getElem?_map] at hd
    cases q : ds.zipIdx[i]? with
    | none => rw [q] at hd; cases hd
    | some p =>
      rw [q] at hd
      rw [List.getElem?_zipIdx] at q
      cases q2 : ds[i]? with
      | none => rw [q2] at q; cases q
      | some d0 =>
        rw [q2] at q
        have hp : (d0, 0 + i) = p := Option.some.inj q
        subst hp
        have hd' : D.tup [.int (k + ((0 + i : Nat) : Int)), d0] = d := Option.some.inj hd
        subst hd'
        obtain ⟨v, hv, rv⟩ := r.get q2
        refine ⟨⟨hs S1 H1 e1 e2, (List.getElem?_eq_some_iff.mp hv).1⟩, fun x H2 hy => ?_⟩
        obtain ⟨t, x0, rfl, ht, rfl, hx⟩ := hy
        rw [hv] at hx; cases hx
        have sn := same_new (o := .tup [.int (k + (i : Nat)), v]) (e2.free ht)
        refine ⟨upd S1 t (.tup [.int (k + (i : Nat)), v]), Ext.new e2 ht, t, [.int (k + (i : Nat)), v], rfl, SqT.of upd_same, _, _, rfl, ?_, _, _, rfl, Rp.mono sn _ _ (Rp.mono e1 _ _ rv), rfl⟩
        show V.int _ = V.int _
        rw [Nat.zero_add]
  · refine ⟨hs S1 H1 e1 e2, ?_⟩
    rw [hl, List.length_map, List.length_zipIdx, r.len]
end
section
variable {X : Cx} {T : Tb} {W : WX} {e e2 : Expr} {fs : Rho → R (List VD)} {p pos tpos : Pos} {elts : List Expr} {kk : Nat}
theorem seqG_of {K : PySem.W.Frag} {β : Option Addr} {G S1 H1 : Hp} {σ : L2.St} {ρ1 : Rho} {k : Int} {x : D} {ds : List D} {u : V} {Q : It → Hp → Prop} (o1 : Ok K T β G S1 σ ρ1 H1) (hx : Rp K T S1 x u) (hi : x.items? = some ds) (p1 : ∀ S' H' J, Same S1 S' → Ok K T β G S' σ ρ1 H' → Wk K T S' (enumDk k ds) J → Q J H') :
    ∃ a xs, u = .ref a ∧ ((SqL K H1 a xs ∧ Q (Itn2 (fun H => SqL K H a xs) xs k) H1) ∨ (SqT K H1 a xs ∧ Q (Itn2 (fun H => SqT K H a xs) xs k) H1)) := by
  cases x with
  | lst ys =>
    cases hi
    obtain ⟨a, vs, rfl, q, r⟩ := hx
    exact ⟨a, vs, rfl, .inl ⟨SqL.of (o1.sh _ _ q), p1 S1 H1 _ (Same.refl _) o1 (wk_enumG (fun S2 H2 a1 a2 => SqL.of (a2 _ _ (a1 _ _ q))) r)⟩⟩
  | tup ys =>
    cases hi
    obtain ⟨a, vs, rfl, q, r⟩ := hx
    exact ⟨a, vs, rfl, .inr ⟨same_tup o1.sh q, p1 S1 H1 _ (Same.refl _) o1 (wk_enumG (fun S2 H2 a1 a2 => same_tup a2 (same_tup a1 q)) r)⟩⟩
  | _ => cases hi
theorem xi_enumA (hm : X.mg "enumerate" = none) (ha : XA X T W [e] fs) (hg : L2.Gl X "enumerate" := by rfl) (hs : starEach [e] X.env = [(false, eval e X.env)] := by rfl) : XI X T W (.Tuple elts kk tpos) (.Call (.Name "enumerate" p) [e] [] pos) (enumA fs) := (pi_enumG hg hm ha hs).impQ fun σ H Q h => by
  obtain ⟨β, G, S, ρ, o, p⟩ := h
  refine ⟨β, G, S, ρ, o, PostI.thn (Rl := RpVs X.K T σ) p fun S1 H1 ρ1 v u e1 o1 h1 p1 => ?_⟩
  have go : ∀ {x : D} {ds : List D}, x.items? = some ds → RpVs X.K T σ S1 [.d x] u → PostI X.K T W β G S1 σ (.ok (enumD ds) ρ1) Q → ∃ a xs, u = [.ref a] ∧ ((SqL X.K H1 a xs ∧ Q (Itn2 (fun H => SqL X.K H a xs) xs 0) H1) ∨ (SqT X.K H1 a xs ∧ Q (Itn2 (fun H => SqT X.K H a xs) xs 0) H1)) := fun {x ds} hi h1 p1 => by
    obtain ⟨z, rfl, hz⟩ := h1.one
    obtain ⟨a, xs, rfl, q⟩ := seqG_of (k := 0) (Q := Q) o1 hz hi fun S' H' J e o wk => p1 S' H' J e o (by rw [enumDk_zero] at wk; exact wk)
    exact ⟨a, xs, rfl, q⟩
  split at p1
  · exact go rfl h1 p1
  · exact go rfl h1 p1
  · rename_i i
    split at p1
    · rename_i xs q
      obtain ⟨z, rfl, hz⟩ := h1.one
      obtain ⟨a, vs, e2, e3, e4, r, o2⟩ := o1.frzSlot q
      have : σ[i]? = some (some z) := hz
      rw [e2] at this; cases this
      refine ⟨a, vs, rfl, .inl ⟨SqL.of e3, p1 _ H1 _ (same_new e4) o2 ?_⟩⟩
      rw [← enumDk_zero]
      exact wk_enumG (fun S2 H2 a1 a2 => SqL.of (a2 _ _ (a1 _ _ upd_same))) (Rps.mono (same_new e4) _ _ r)
    · exact p1.elim
  · exact p1.elim
theorem xi_enumK (k : Int) (hk0 : -(2 ^ 63) ≤ k) (hk1 : k < 2 ^ 63) (hm : X.mg "enumerate" = none) (ha : XA X T W [e, e2] fs) (hg : L2.Gl X "enumerate" := by rfl) (hs : starEach [e, e2] X.env = (false, eval e X.env) :: starEach [e2] X.env := by rfl) (hp : (backTo pos (starEach [e2] X.env)).any (·.1) = false := by rfl) : XI X T W (.Tuple elts kk tpos) (.Call (.Name "enumerate" p) [e, e2] [] pos) (enumK k fs) := (pi_enumK k hg hm ha hk0 hk1 hs hp).impQ fun σ H Q h => by
  obtain ⟨β, G, S, ρ, o, p⟩ := h
  refine ⟨β, G, S, ρ, o, PostI.thn (Rl := RpVs X.K T σ) p fun S1 H1 ρ1 v u e1 o1 h1 p1 => ?_⟩
  split at p1
  · rename_i ds j
    split at p1
    · rename_i hj
      subst hj
      obtain ⟨z, y, rfl, hz, hy⟩ := h1.two
      obtain rfl : y = .int j := hy
      obtain ⟨a, xs, rfl, q⟩ := seqG_of (k := j) (Q := Q) (x := .lst ds) o1 hz rfl p1
      exact ⟨a, xs, rfl, q⟩
    · exact p1.elim
  · rename_i ds j
    split at p1
    · rename_i hj
      subst hj
      obtain ⟨z, y, rfl, hz, hy⟩ := h1.two
      obtain rfl : y = .int j := hy
      obtain ⟨a, xs, rfl, q⟩ := seqG_of (k := j) (Q := Q) (x := .tup ds) o1 hz rfl p1
      exact ⟨a, xs, rfl, q⟩
    · exact p1.elim
  · exact p1.elim
end
end Lq
namespace Lq
open PySem PySem.Spec PyProof.Rows L2 PySem.W
/-! ### which class is under which: by the text's own facts -/
theorem kit_ref2 {K : Frag} {t : Value} {C : Addr} {b : Bool} (hd : hasDictIn K C = true) (ht : typeIn K (.ref C) = some (.type "type")) (hs : subIn K (.ref C) (.ref C) = some true) (h : subIn K t (.ref C) = some b) : kitOne K t (.ref C) = some b := by
  unfold kitOne
  by_cases e : (t == .ref C) = true
  · rw [if_pos e]
    have e' : t = .ref C := eq_of_beq e
    rw [e', hs] at h
    exact h
  · rw [if_neg e]
    obtain ⟨cd, hc, _⟩ := any_some hd
    have e2 : ((clsIn K C).isSome && typeIn K (.ref C) == some (.type "type")) = true := by rw [hc, ht] <;> rfl
    show (if ((clsIn K C).isSome && typeIn K (.ref C) == some (.type "type")) = true then subIn K t (.ref C) else none) = some b
    rw [if_pos e2]
    exact h
end Lq
namespace Lq
open PySem
/-! ### comprehensions, loops, tests: plain laws -/
theorem wipeR_get_out {ρ : Rho} : ∀ {vs : List Nat} {v : Nat}, v ∉ vs → (wipeR ρ vs)[v]? = ρ[v]?
  | [], _, _ => rfl
  | w :: vs, v, h => by
    unfold wipeR
    simp only [List.mem_cons, not_or] at h
    rw [List.getElem?_set_ne (Ne.symm h.1)]
    exact wipeR_get_out h.2
theorem back_wipe {ρ : Rho} : ∀ vs : List Nat, backR ρ (wipeR ρ vs) vs = ρ := fun vs => by
  apply List.ext_getElem?
  intro i
  by_cases hi : i ∈ vs
  · by_cases hl : i < ρ.length
    · rw [backR_in hi (by rw [wipeR_len]; exact hl), List.getD_eq_getElem?_getD, List.getElem?_eq_getElem hl]; rfl
    · rw [List.getElem?_eq_none (by rw [backR_len, wipeR_len]; omega), List.getElem?_eq_none (by omega)]
  · rw [backR_out hi, wipeR_get_out hi]
theorem compL_st {vs : List Nat} {gd : D → Rho → Option Rho} {ft : Rho → R Bool} {fe : Rho → R VD} (I : Nat → List D → Rho → Prop) : ∀ (ds : List D) (k : Nat) (acc : List D) (ρ : Rho), I k acc ρ →
    (∀ j d acc ρ, ds[j]? = some d → I (k + j) acc ρ → ∃ acc' ρ1, compTurn gd ft fe acc d ρ = .ok acc' ρ1 ∧ I (k + j + 1) acc' (wipeR ρ1 vs)) → ∃ acc' ρ', compLoop vs gd ft fe acc ds ρ = .ok acc' ρ' ∧ I (k + ds.length) acc' ρ'
  | [], k, acc, ρ, hi, _ => ⟨acc, ρ, rfl, hi⟩
  | d :: ds, k, acc, ρ, hi, h => by
    obtain ⟨a1, ρ1, e1, h1⟩ := h 0 d acc ρ rfl hi
    obtain ⟨a2, ρ2, e2, h2⟩ := compL_st I ds (k + 1) a1 _ h1 fun j d' a' ρ' hj hi' => by
      obtain ⟨a3, ρ3, e3, h3⟩ := h (j + 1) d' a' ρ' hj (by rw [show k + (j + 1) = k + 1 + j by omega]; exact hi')
      exact ⟨a3, ρ3, e3, by rw [show k + 1 + j + 1 = k + (j + 1) + 1 by omega]; exact h3⟩
    refine ⟨a2, ρ2, ?_, by rw [List.length_cons, show k + (ds.length + 1) = k + 1 + ds.length by omega]; exact h2⟩
    rw [compLoop, e1]
    exact e2
/-- a comprehension that changes a state (draws) -/
theorem compF_st {vs : List Nat} {fi : Rho → R (List D)} {gd : D → Rho → Option Rho} {ft : Rho → R Bool} {fe : Rho → R VD} {ρ ρ0 : Rho} {ds : List D} (I : Nat → List D → Rho → Prop) (hi : fi ρ = .ok ds ρ0) (hp : (vs.all fun v => plainC (ρ0.getD v .no)) = true) (h0 : I 0 [] (wipeR ρ0 vs))
    (h : ∀ j d acc ρ, ds[j]? = some d → I j acc ρ → ∃ acc' ρ1, compTurn gd ft fe acc d ρ = .ok acc' ρ1 ∧ I (j + 1) acc' (wipeR ρ1 vs)) : ∃ acc ρ', compF vs fi gd ft fe ρ = .ok acc (backR ρ0 ρ' vs) ∧ I ds.length acc ρ' := by
  obtain ⟨acc, ρ', e, h2⟩ := compL_st (vs := vs) (gd := gd) (ft := ft) (fe := fe) I ds 0 [] _ h0 fun j d a ρ hj hI => by
    rw [Nat.zero_add] at hI ⊢; exact h j d a ρ hj hI
  rw [Nat.zero_add] at h2
  refine ⟨acc, ρ', ?_, h2⟩
  simp only [Lq.compF, hi, R.bind, hp, e, if_true]
/-- .. that changes nothing: what passes the test, mapped -/
theorem compF_fm {vs : List Nat} {fi : Rho → R (List D)} {gd : D → Rho → Option Rho} {ft : Rho → R Bool} {fe : Rho → R VD} {ρ ρ0 : Rho} {ds : List D} (p : D → Bool) (g : D → D) (hi : fi ρ = .ok ds ρ0) (hp : (vs.all fun v => plainC (ρ0.getD v .no)) = true) (hl : ds.length ≤ 1000000)
    (h : ∀ d ∈ ds, ∃ ρ1, gd d (wipeR ρ0 vs) = some ρ1 ∧ ft ρ1 = .ok (p d) ρ1 ∧ (p d = true → fe ρ1 = .ok (.d (g d)) ρ1) ∧ wipeR ρ1 vs = wipeR ρ0 vs) : compF vs fi gd ft fe ρ = .ok ((ds.filter p).map g) ρ0 := by
  have e := comp_all (vs := vs) (gd := gd) (ft := ft) (fe := fe) (g := fun d => if p d then [g d] else []) (ρ := wipeR ρ0 vs) ds [] (fun d hd => ⟨by split <;> simp, fun acc ha => by
    obtain ⟨ρ1, e1, e2, e3, e4⟩ := h d hd
    refine ⟨ρ1, ?_, e4⟩
    cases hpd : p d with
    | true => simp only [Lq.compTurn, e1, e2, hpd, R.bind, e3 hpd, if_true, fits_of ha]
    | false => simp [Lq.compTurn, e1, e2, hpd, R.bind]⟩) (by rw [List.length_nil]; omega)
  rw [List.nil_append, flatMap_if] at e
  simp only [Lq.compF, hi, R.bind, hp, e, if_true, back_wipe]
theorem compF_m {vs : List Nat} {fi : Rho → R (List D)} {gd : D → Rho → Option Rho} {fe : Rho → R VD} {ρ ρ0 : Rho} {ds : List D} (g : D → D) (hi : fi ρ = .ok ds ρ0) (hp : (vs.all fun v => plainC (ρ0.getD v .no)) = true) (hl : ds.length ≤ 1000000)
    (h : ∀ d ∈ ds, ∃ ρ1, gd d (wipeR ρ0 vs) = some ρ1 ∧ fe ρ1 = .ok (.d (g d)) ρ1 ∧ wipeR ρ1 vs = wipeR ρ0 vs) : compF vs fi gd yesT fe ρ = .ok (ds.map g) ρ0 := by
  have e := compF_fm (vs := vs) (fi := fi) (gd := gd) (ft := yesT) (fe := fe) (ρ := ρ) (ρ0 := ρ0) (ds := ds) (fun _ => true) g hi hp hl fun d hd => by
    obtain ⟨ρ1, h1, h2, h3⟩ := h d hd
    exact ⟨ρ1, h1, rfl, fun _ => h2, h3⟩
  rw [e, List.filter_eq_self.2 fun _ _ => rfl]
/-- a loop goes through its first items -/
theorem loop_pre {body : D → Rho → O} (I : Nat → Rho → Prop) (l2 : List D) : ∀ (l1 : List D) (k : Nat) (ρ : Rho), I k ρ → (∀ (j : Nat) (d : D) (ρ : Rho), l1[j]? = some d → I (k + j) ρ → ∃ ρ1, (body d ρ = .nx ρ1 ∨ body d ρ = .ct ρ1) ∧ I (k + j + 1) ρ1) →
    ∃ ρ', loopS body (l1 ++ l2) ρ = loopS body l2 ρ' ∧ I (k + l1.length) ρ'
  | [], k, ρ, hi, _ => ⟨ρ, rfl, hi⟩
  | d :: ds, k, ρ, hi, h => by
    obtain ⟨ρ1, e1, h1⟩ := h 0 d ρ rfl hi
    obtain ⟨ρ2, e2, h2⟩ := loop_pre I l2 ds (k + 1) ρ1 h1 (fun j d' ρ' hj hi' => by
      obtain ⟨ρ3, e3, h3⟩ := h (j + 1) d' ρ' hj (by rw [show k + (j + 1) = k + 1 + j by omega]; exact hi')
      exact ⟨ρ3, e3, by rw [show k + 1 + j + 1 = k + (j + 1) + 1 by omega]; exact h3⟩)
    refine ⟨ρ2, ?_, by rw [List.length_cons, show k + (ds.length + 1) = k + 1 + ds.length by omega]; exact h2⟩
    rw [List.cons_append, loopS]
    rcases e1 with e1 | e1 <;> (rw [e1]; exact e2)
theorem add_tup {a b : List D} (h : a.length + b.length ≤ 1000000) : addD (.tup a) (.tup b) = some (.tup (a ++ b)) := by
  simp [addD, fits_of h]
theorem add_lst {a b : List D} (h : a.length + b.length ≤ 1000000) : addD (.lst a) (.lst b) = some (.lst (a ++ b)) := by
  simp [addD, fits_of h]
/-! ### names -/
def onS (q : Str → Bool) : D → Bool := fun d => match d with | .str w => q w | _ => false
theorem filter_onS (q : Str → Bool) (ws : List Str) : ((ws.map D.str).filter (onS q)) = (ws.filter q).map D.str := by
  rw [List.filter_map]; rfl
theorem strs_at {ws : List Str} {j : Nat} {d : D} (h : (ws.map D.str)[j]? = some d) : ∃ w, ws[j]? = some w ∧ d = .str w := by
  rw [List.getElem?_map] at h
  cases q : ws[j]? with
  | none => rw [q] at h; cases h
  | some w => rw [q] at h; exact ⟨w, rfl, (Option.some.inj h).symm⟩
theorem enum_strs (ws : List Str) : enumD (ws.map D.str) = ws.zipIdx.map fun p => D.tup [.int (p.2 : Nat), .str p.1] := by
  unfold enumD
  rw [List.zipIdx_map, List.map_map]; rfl
theorem flat_strs (ws : List Str) : ((ws.map D.str).all D.flat) = true := List.all_eq_true.2 fun d hd => by
  obtain ⟨w, _, rfl⟩ := List.mem_map.1 hd
  rfl
theorem anyEq_strs (w : Str) (ws : List Str) : anyEq (.str w) (ws.map D.str) = decide (w ∈ ws) := by
  unfold anyEq
  rw [List.any_map]
  by_cases h : w ∈ ws
  · rw [decide_eq_true h, List.any_eq_true]
    exact ⟨w, h, by simp [deq]⟩
  · rw [decide_eq_false h, List.any_eq_false]
    intro x hx
    simp [deq]
    exact fun e => h (e ▸ hx)
theorem in_strs {x : D} {ws : List Str} (hx : x.items? = some (ws.map D.str)) (w : Str) : inD (.str w) x = some (.bl (decide (w ∈ ws))) := by
  cases x with
  | lst ys => cases hx; simp [inD, D.flat, flat_strs, anyEq_strs]
  | tup ys => cases hx; simp [inD, D.flat, flat_strs, anyEq_strs]
  | _ => cases hx
theorem nin_strs {x : D} {ws : List Str} (hx : x.items? = some (ws.map D.str)) (w : Str) : ninD (.str w) x = some (.bl (!decide (w ∈ ws))) := by
  cases x with
  | lst ys => cases hx; simp [ninD, D.flat, flat_strs, anyEq_strs]
  | tup ys => cases hx; simp [ninD, D.flat, flat_strs, anyEq_strs]
  | _ => cases hx
theorem items_len {x : D} {xs : List D} (hx : x.items? = some xs) : lenD [x] = some (.int xs.length) := by
  cases x with
  | lst ys => cases hx; rfl
  | tup ys => cases hx; rfl
  | _ => cases hx
theorem items_of {x : D} {xs : List D} (hx : x.items? = some xs) : itemsOf x = some xs := by
  cases x with
  | lst ys => cases hx; rfl
  | tup ys => cases hx; rfl
  | _ => cases hx
theorem items_tuple {x : D} {xs : List D} (hx : x.items? = some xs) : tupleD [x] = some (.tup xs) := by
  cases x with
  | lst ys => cases hx; rfl
  | tup ys => cases hx; rfl
  | _ => cases hx
theorem items_list {x : D} {xs : List D} (hx : x.items? = some xs) : listF [x] = some xs := by
  cases x with
  | lst ys => cases hx; rfl
  | tup ys => cases hx; rfl
  | _ => cases hx
theorem items_seq {x : D} {xs : List D} {i : Nat} {ρ : Rho} (hx : x.items? = some xs) (h : ρ[i]? = some (.d x)) : seqI (nameE i) ρ = .ok xs ρ := by
  simp only [seqI, nameE, h, R.bind, items_of hx]
theorem items_enum {x : D} {xs : List D} {i : Nat} {ρ : Rho} (hx : x.items? = some xs) (h : ρ[i]? = some (.d x)) : enumA (consA (nameE i) nilA) ρ = .ok (enumD xs) ρ := by
  cases x with
  | lst ys => cases hx; simp [enumA, consA, nilA, nameE, h, R.bind]
  | tup ys => cases hx; simp [enumA, consA, nilA, nameE, h, R.bind]
  | _ => cases hx
theorem keysD_eq (x : D) : keysD x = (x.items?.bind fun xs => if Nat.ble xs.length 1000 then (match allOf D.int? xs with | some ns => some (.inl ns) | none => (match allOf D.str? xs with | some ws => some (.inr ws) | none => none)) else none) := by
  unfold keysD
  cases x.items? <;> rfl
theorem strs_int (w : Str) (r : List Str) : allOf D.int? (List.map D.str (w :: r)) = none := rfl
theorem items_keys {x : D} {ws : List Str} (hx : x.items? = some (ws.map D.str)) (hl : ws.length ≤ 1000) : keysD x = some (if ws = [] then .inl [] else .inr ws) := by
  have h1 : Nat.ble (ws.map D.str).length 1000 = true := Nat.ble_eq_true_of_le (by rw [List.length_map]; exact hl)
  rw [keysD_eq, hx, Option.bind_some, if_pos h1]
  cases ws with
  | nil => rfl
  | cons w r => rw [strs_int, allOf_map_str]; simp
theorem items_lenSet {x : D} {ws : List Str} (hx : x.items? = some (ws.map D.str)) (hl : ws.length ≤ 1000) : lenSetD [x] = some (.int (uniq ws).length) := by
  have e : lenSetD [x] = (match keysD x with | some (.inl ns) => some (.int ((uniq ns).length : Nat)) | some (.inr ws) => some (.int ((uniq ws).length : Nat)) | none => none) := rfl
  rw [e, items_keys hx hl]
  cases ws <;> rfl
theorem items_sortSet {x : D} {ws : List Str} (hx : x.items? = some (ws.map D.str)) (hl : ws.length ≤ 1000) : sortSetF [x] = some ((setS ws).map D.str) := by
  have e : sortSetF [x] = (match keysD x with | some (.inl ns) => some ((setI ns).map D.int) | some (.inr ws) => some ((setS ws).map D.str) | none => none) := rfl
  rw [e, items_keys hx hl]
  cases ws <;> rfl
theorem items_sorted {x : D} {ws : List Str} (hx : x.items? = some (ws.map D.str)) : sortedF [x] = some ((sortStrs ws).map D.str) := by
  have e : sortedF [x] = (match x.items? with | some xs => sortDs xs | none => none) := rfl
  rw [e, hx]
  show sortDs _ = _
  unfold sortDs
  cases ws with
  | nil => rfl
  | cons w r => rw [strs_int, allOf_map_str]
theorem ltS_irrefl (w : Str) : ¬ LtS w w := List.lt_irrefl _
theorem LtS.trans {x y z : Str} (h1 : LtS x y) (h2 : LtS y z) : LtS x z := List.lt_trans h1 h2
theorem LtS.asymm {x y : Str} (h1 : LtS x y) (h2 : LtS y x) : False := List.lt_asymm h1 h2
instance (x y : Str) : Decidable (LtS x y) := inferInstanceAs (Decidable (x.cps.toList < y.cps.toList))
/-- rising, neighbour by neighbour -/
def rising : List Str → Bool
  | x :: y :: r => decide (LtS x y) && rising (y :: r)
  | _ => true
theorem rising_pw : ∀ {ws : List Str}, rising ws = true ↔ ws.Pairwise LtS
  | [] => by simp [rising]
  | [x] => by simp [rising]
  | x :: y :: r => by
    rw [rising, Bool.and_eq_true, decide_eq_true_eq, rising_pw, List.pairwise_cons (a := x)]
    constructor
    · rintro ⟨h1, h2⟩
      refine ⟨fun z hz => ?_, h2⟩
      rcases List.mem_cons.1 hz with rfl | hz
      · exact h1
      · exact h1.trans ((List.pairwise_cons.1 h2).1 z hz)
    · rintro ⟨h1, h2⟩
      exact ⟨h1 y List.mem_cons_self, h2⟩
theorem pw_nodup : ∀ {ws : List Str}, ws.Pairwise LtS → ws.Nodup
  | [], _ => List.nodup_nil
  | w :: r, h => by
    obtain ⟨h1, h2⟩ := List.pairwise_cons.1 h
    exact List.nodup_cons.2 ⟨fun hw => ltS_irrefl w (h1 w hw), pw_nodup h2⟩
theorem sort_id {ws : List Str} (h : ws.Pairwise LtS) : sortStrs ws = ws := uniq_strs (sortStrs_perm ws) (sortStrs_sorted ws) (h.imp fun h z => LtS.asymm h z)
theorem pw_ext {a b : List Str} (ha : a.Pairwise LtS) (hb : b.Pairwise LtS) (h : ∀ w, w ∈ a ↔ w ∈ b) : a = b := by
  have p : a.Perm b := (List.perm_ext_iff_of_nodup (pw_nodup ha) (pw_nodup hb)).2 h
  rw [← sort_id ha, ← sort_id hb]
  exact uniq_strs (((sortStrs_perm a).trans p).trans (sortStrs_perm b).symm) (sortStrs_sorted _) (sortStrs_sorted _)
end Lq
namespace Lw
open PySem PySem.Spec PyProof.Rows L2 Lq
def topS (i : Nat) : Stmt := PySem.Challenge.pw_heirturns_k53_shares_on_lists.main.body.getD i (.Pass ⟨0, 0, 0, 0⟩)
abbrev s_is_name : Stmt := topS 7
abbrev s_is_rising : Stmt := topS 8
abbrev s_is_list : Stmt := topS 10
abbrev s_is_share : Stmt := topS 11
abbrev s_check_on : Stmt := topS 12
abbrev s_by_list : Stmt := topS 13
abbrev s_places_on : Stmt := topS 14
abbrev s_kth_best : Stmt := topS 15
abbrev s_law_box : Stmt := topS 17
abbrev s_law_take : Stmt := topS 18
abbrev s_law_cells : Stmt := topS 19
abbrev s_law_pick : Stmt := topS 20
abbrev s_law_same : Stmt := topS 21
abbrev s_law_tags : Stmt := topS 22
abbrev s_law_mixed : Stmt := topS 23
abbrev s_law_refused : Stmt := topS 24
abbrev s_law_case_right : Stmt := topS 25
abbrev s_law_by_hand_right : Stmt := topS 26
abbrev s_law_right : Stmt := topS 27
abbrev s_law : Stmt := topS 28
abbrev si_NoThing : Stmt := clsAt (topS 2) 0
abbrev si_NoNumber : Stmt := clsAt (topS 3) 0
/-- what stands behind the top -/
structure Tx (K : PySem.W.Frag) (mg : Str → Option Value) (T : Tb) where
  a_is_name : Addr
  d_is_name : FuncData
  F_is_name : Fun K "is_name" "is_name" s_is_name a_is_name d_is_name
  g_is_name : mg "is_name" = some (.ref a_is_name)
  a_is_rising : Addr
  d_is_rising : FuncData
  F_is_rising : Fun K "is_rising" "is_rising" s_is_rising a_is_rising d_is_rising
  g_is_rising : mg "is_rising" = some (.ref a_is_rising)
  a_is_list : Addr
  d_is_list : FuncData
  F_is_list : Fun K "is_list" "is_list" s_is_list a_is_list d_is_list
  g_is_list : mg "is_list" = some (.ref a_is_list)
  a_is_share : Addr
  d_is_share : FuncData
  F_is_share : Fun K "is_share" "is_share" s_is_share a_is_share d_is_share
  g_is_share : mg "is_share" = some (.ref a_is_share)
  a_check_on : Addr
  d_check_on : FuncData
  F_check_on : Fun K "check_on" "check_on" s_check_on a_check_on d_check_on
  g_check_on : mg "check_on" = some (.ref a_check_on)
  a_by_list : Addr
  d_by_list : FuncData
  F_by_list : Fun K "by_list" "by_list" s_by_list a_by_list d_by_list
  g_by_list : mg "by_list" = some (.ref a_by_list)
  a_places_on : Addr
  d_places_on : FuncData
  F_places_on : Fun K "places_on" "places_on" s_places_on a_places_on d_places_on
  g_places_on : mg "places_on" = some (.ref a_places_on)
  a_kth_best : Addr
  d_kth_best : FuncData
  F_kth_best : Fun K "kth_best" "kth_best" s_kth_best a_kth_best d_kth_best
  g_kth_best : mg "kth_best" = some (.ref a_kth_best)
  a_law_box : Addr
  d_law_box : FuncData
  F_law_box : Fun K "_law_box" "_law_box" s_law_box a_law_box d_law_box
  g_law_box : mg "_law_box" = some (.ref a_law_box)
  a_law_take : Addr
  d_law_take : FuncData
  F_law_take : Fun K "_law_take" "_law_take" s_law_take a_law_take d_law_take
  g_law_take : mg "_law_take" = some (.ref a_law_take)
  a_law_cells : Addr
  d_law_cells : FuncData
  F_law_cells : Fun K "_law_cells" "_law_cells" s_law_cells a_law_cells d_law_cells
  g_law_cells : mg "_law_cells" = some (.ref a_law_cells)
  a_law_pick : Addr
  d_law_pick : FuncData
  F_law_pick : Fun K "_law_pick" "_law_pick" s_law_pick a_law_pick d_law_pick
  g_law_pick : mg "_law_pick" = some (.ref a_law_pick)
  a_law_same : Addr
  d_law_same : FuncData
  F_law_same : Fun K "_law_same" "_law_same" s_law_same a_law_same d_law_same
  g_law_same : mg "_law_same" = some (.ref a_law_same)
  a_law_tags : Addr
  d_law_tags : FuncData
  F_law_tags : Fun K "_law_tags" "_law_tags" s_law_tags a_law_tags d_law_tags
  g_law_tags : mg "_law_tags" = some (.ref a_law_tags)
  a_law_mixed : Addr
  d_law_mixed : FuncData
  F_law_mixed : Fun K "_law_mixed" "_law_mixed" s_law_mixed a_law_mixed d_law_mixed
  g_law_mixed : mg "_law_mixed" = some (.ref a_law_mixed)
  a_law_refused : Addr
  d_law_refused : FuncData
  F_law_refused : Fun K "_law_refused" "_law_refused" s_law_refused a_law_refused d_law_refused
  g_law_refused : mg "_law_refused" = some (.ref a_law_refused)
  a_law_case_right : Addr
  d_law_case_right : FuncData
  F_law_case_right : Fun K "_law_case_right" "_law_case_right" s_law_case_right a_law_case_right d_law_case_right
  g_law_case_right : mg "_law_case_right" = some (.ref a_law_case_right)
  a_law_by_hand_right : Addr
  d_law_by_hand_right : FuncData
  F_law_by_hand_right : Fun K "_law_by_hand_right" "_law_by_hand_right" s_law_by_hand_right a_law_by_hand_right d_law_by_hand_right
  g_law_by_hand_right : mg "_law_by_hand_right" = some (.ref a_law_by_hand_right)
  a_law_right : Addr
  d_law_right : FuncData
  F_law_right : Fun K "_law_right" "_law_right" s_law_right a_law_right d_law_right
  g_law_right : mg "_law_right" = some (.ref a_law_right)
  a_law : Addr
  d_law : FuncData
  F_law : Fun K "law" "law" s_law a_law d_law
  g_law : mg "law" = some (.ref a_law)
  fI_NoThing : Addr
  fd_NoThing : FuncData
  E_NoThing : EC K mg "NoThing" "name" (T 3) fI_NoThing
  FI_NoThing : Fun K "__init__" "NoThing.__init__" si_NoThing fI_NoThing fd_NoThing
  fI_NoNumber : Addr
  fd_NoNumber : FuncData
  E_NoNumber : EC K mg "NoNumber" "number" (T 11) fI_NoNumber
  FI_NoNumber : Fun K "__init__" "NoNumber.__init__" si_NoNumber fI_NoNumber fd_NoNumber
  ec_NoThing : ExcC K (T 3)
  ec_NoNumber : ExcC K (T 11)
  C_H : Addr
  gH : mg "HeirError" = some (.ref C_H)
  ex_NoThing_NoNumber : PySem.W.exmOne K (.ref (T 3)) (.ref (T 11)) = some false
  ex_NoNumber_NoNumber : PySem.W.exmOne K (.ref (T 11)) (.ref (T 11)) = some true
  ex_NoThing_NoThing : PySem.W.exmOne K (.ref (T 3)) (.ref (T 3)) = some true
  ex_NoNumber_NoThing : PySem.W.exmOne K (.ref (T 11)) (.ref (T 3)) = some false
  ki_NoThing_HeirError : PySem.W.kitOne K (.ref (T 3)) (.ref C_H) = some true
  ki_NoNumber_HeirError : PySem.W.kitOne K (.ref (T 11)) (.ref C_H) = some true
  z_abs : mg "abs" = none
  z_all : mg "all" = none
  z_bool : mg "bool" = none
  z_enumerate : mg "enumerate" = none
  z_int : mg "int" = none
  z_isinstance : mg "isinstance" = none
  z_len : mg "len" = none
  z_list : mg "list" = none
  z_min : mg "min" = none
  z_range : mg "range" = none
  z_set : mg "set" = none
  z_sorted : mg "sorted" = none
  z_str : mg "str" = none
  z_tuple : mg "tuple" = none
  z_zip : mg "zip" = none
  c_MOST_LETTERS : ∃ t, mg "MOST_LETTERS" = some (.int 8 t)
  c_LETTERS : ∃ t, mg "LETTERS" = some (.str "abcdefghijklmnopqrstuvwxyz" t)
section
variable {P : Program} {w : World} {K : PySem.W.Frag} {mg : Str → Option Value} {base : Heap} {T : Tb}
theorem sci_NoThing : FnScope ["self", "name"] ["self", "name"] (defScope si_NoThing) := ⟨rfl, rfl, rfl, by decide +kernel, rfl, by decide +kernel, by decide +kernel⟩
theorem bI_NoThing (tx : Tx K mg T) : Binds K tx.fd_NoThing ["self", "name"] [] := tx.FI_NoThing.binds fun _ _ _ _ _ _ us hl => match us, hl with | [_, _], _ => rfl
theorem in_NoThing (tx : Tx K mg T) : FnOk P w K mg base (L2.CX P w) 1 tx.fI_NoThing tx.fd_NoThing ["self", "name"] (spIn K (T 3) "name") := fn_in1 tx.FI_NoThing sci_NoThing rfl tx.E_NoThing.ox tx.E_NoThing.noF (fun _ _ _ _ _ _ => pss_one (ps_ost (pv 0) (pv 1)))
theorem sci_NoNumber : FnScope ["self", "number"] ["self", "number"] (defScope si_NoNumber) := ⟨rfl, rfl, rfl, by decide +kernel, rfl, by decide +kernel, by decide +kernel⟩
theorem bI_NoNumber (tx : Tx K mg T) : Binds K tx.fd_NoNumber ["self", "number"] [] := tx.FI_NoNumber.binds fun _ _ _ _ _ _ us hl => match us, hl with | [_, _], _ => rfl
theorem in_NoNumber (tx : Tx K mg T) : FnOk P w K mg base (L2.CX P w) 1 tx.fI_NoNumber tx.fd_NoNumber ["self", "number"] (spIn K (T 11) "number") := fn_in1 tx.FI_NoNumber sci_NoNumber rfl tx.E_NoNumber.ox tx.E_NoNumber.noF (fun _ _ _ _ _ _ => pss_one (ps_ost (pv 0) (pv 1)))
theorem hx_NoNumber (tx : Tx K mg T) : ∀ t b, List.lookup t ([(3, false), (11, true)] : List (Nat × Bool)) = some b → PySem.W.exmOne K (.ref (T t)) (.ref (T 11)) = some b := (exs_cons tx.ex_NoThing_NoNumber (exs_cons tx.ex_NoNumber_NoNumber exs_nil))
theorem hx_NoThing (tx : Tx K mg T) : ∀ t b, List.lookup t ([(3, true), (11, false)] : List (Nat × Bool)) = some b → PySem.W.exmOne K (.ref (T t)) (.ref (T 3)) = some b := (exs_cons tx.ex_NoThing_NoThing (exs_cons tx.ex_NoNumber_NoThing exs_nil))
theorem hi_HeirError (tx : Tx K mg T) : ∀ t b, List.lookup t ([(3, true), (11, true)] : List (Nat × Bool)) = some b → ExcC K (T t) ∧ PySem.W.kitOne K (.ref (T t)) (.ref tx.C_H) = some b := (exi_cons tx.ec_NoThing tx.ki_NoThing_HeirError (exi_cons tx.ec_NoNumber tx.ki_NoNumber_HeirError exi_nil))
theorem kp_by_list_10 (tx : Tx K mg T) : KwP K tx.d_by_list ["order", "share"] ["share", "order"] [1, 0] := kwP_of tx.F_by_list fun _ _ _ _ _ _ us hl => match us, hl with | [_, _], _ => rfl
theorem kp_places_on_10 (tx : Tx K mg T) : KwP K tx.d_places_on ["order", "share"] ["share", "order"] [1, 0] := kwP_of tx.F_places_on fun _ _ _ _ _ _ us hl => match us, hl with | [_, _], _ => rfl
theorem kp_kth_best_210 (tx : Tx K mg T) : KwP K tx.d_kth_best ["order", "share", "number"] ["number", "share", "order"] [2, 1, 0] := kwP_of tx.F_kth_best fun _ _ _ _ _ _ us hl => match us, hl with | [_, _, _], _ => rfl
theorem kp_is_share_10 (tx : Tx K mg T) : KwP K tx.d_is_share ["order", "thing"] ["thing", "order"] [1, 0] := kwP_of tx.F_is_share fun _ _ _ _ _ _ us hl => match us, hl with | [_, _], _ => rfl
theorem xe_MOST_LETTERS {X : Cx} {W : WX} {pos : Pos} (tx : Tx X.K X.mg T) (hg : L2.Gl X "MOST_LETTERS" := by rfl) : XE X T W (.Name "MOST_LETTERS" pos) (constE (.int (8))) := by
  obtain ⟨t, e⟩ := tx.c_MOST_LETTERS
  exact xe_glob (v := (.int (8))) hg e ⟨t, rfl⟩ (fun _ => rfl)
theorem xe_LETTERS {X : Cx} {W : WX} {pos : Pos} (tx : Tx X.K X.mg T) (hg : L2.Gl X "LETTERS" := by rfl) : XE X T W (.Name "LETTERS" pos) (constE (.str "abcdefghijklmnopqrstuvwxyz")) := by
  obtain ⟨t, e⟩ := tx.c_LETTERS
  exact xe_glob (v := (.str "abcdefghijklmnopqrstuvwxyz")) hg e ⟨t, rfl⟩ (fun _ => rfl)
/-! #### is_name -/
theorem sc_is_name : FnScope ["value", "letter"] ["value"] (defScope s_is_name) := ⟨rfl, rfl, rfl, by decide +kernel, rfl, by decide +kernel, by decide +kernel⟩
theorem b_is_name (tx : Tx K mg T) : Binds K tx.d_is_name ["value"] [] := tx.F_is_name.binds fun _ _ _ _ _ _ us hl => match us, hl with | [_], _ => rfl
theorem kw_is_name (tx : Tx K mg T) : KwB K tx.d_is_name ["value"] := kwB_of tx.F_is_name fun _ _ _ _ _ _ us hl => match us, hl with | [_], _ => rfl
def m_is_name_e1 : Rho → R VD := (op2E inD (nameE 1) (constE (.str "abcdefghijklmnopqrstuvwxyz")))
def m_is_name_c1 : Rho → R (List D) := (compF [1] (seqI (nameE 0)) (nameG 1) yesT m_is_name_e1)
def m_is_name : Rho → O := (seqS (ifS (orT (notT (valT (isiE ["str"] (nameE 0)))) (notT (valT (chainE leD leD (constE (.int 1)) (opNE lenD (consA (nameE 0) nilA)) (constE (.int (8))))))) (retS (constE (.bl false))) nextS)
  (retS (opNE allD (consA (frzE m_is_name_c1) nilA))))
def f_is_name : List D → Res := runF 1 2 m_is_name
theorem ok_is_name (tx : Tx K mg T) : FnOk P w K mg base (L2.CX P w) 1 tx.a_is_name tx.d_is_name ["value"] (spP K T 1 f_is_name) :=
    fn_pure tx.F_is_name sc_is_name (by decide) fun cdv A outer s H E hr tk hp =>
      (xb_cons (xs_if (XW.xt (xw_or (xt_not (xt_val (xe_isi1 (t := "str") tx.z_isinstance (by decide +kernel) tx.z_str (by decide +kernel) (xe_name 0) (by decide)))) (xw_or1 (xt_not (xt_chain op_le p_le op_le p_le xe_int (xe_callB call_len p_len tx.z_len (by decide +kernel) (xa_cons (xe_name 0) xa_nil)) (xe_MOST_LETTERS tx)))))) (xb_one (xs_ret xe_bl)) xb_nil)
      (xb_one (xs_ret (xe_callB (cr_all rfl) p_all tx.z_all (by decide +kernel) (xa_cons (XF.xe (xf_lc rfl sc_is_name.nd (xi_seq (xe_name 0)) (blkOk_by (own := [("letter", 1)]) (by kernel_rfl)) (fun _ _ _ _ _ => (xgo_name 1 sc_is_name.nd)) (fun _ _ _ _ _ => xts_nil) (fun _ _ _ _ _ => (xe_cmp op_inA p_in (xe_name 1) (xe_LETTERS tx))))) xa_nil)))))
/-! #### is_rising -/
theorem sc_is_rising : FnScope ["row", "one", "other"] ["row"] (defScope s_is_rising) := ⟨rfl, rfl, rfl, by decide +kernel, rfl, by decide +kernel, by decide +kernel⟩
theorem b_is_rising (tx : Tx K mg T) : Binds K tx.d_is_rising ["row"] [] := tx.F_is_rising.binds fun _ _ _ _ _ _ us hl => match us, hl with | [_], _ => rfl
theorem kw_is_rising (tx : Tx K mg T) : KwB K tx.d_is_rising ["row"] := kwB_of tx.F_is_rising fun _ _ _ _ _ _ us hl => match us, hl with | [_], _ => rfl
def m_is_rising_e1 : Rho → R VD := (op2E ltD (nameE 1) (nameE 2))
def m_is_rising_c1 : Rho → R (List D) := (compF [1, 2] (zipI (consA (nameE 0) (consA (slE (nameE 0) (aPart (constE (.int 1))) noPart) nilA))) (tupG 2 (consG (nameG 1) (consG (nameG 2) nilG))) yesT m_is_rising_e1)
def m_is_rising : Rho → O := (retS (opNE allD (consA (frzE m_is_rising_c1) nilA)))
def f_is_rising : List D → Res := runF 1 3 m_is_rising
theorem ok_is_rising (tx : Tx K mg T) : FnOk P w K mg base (L2.CX P w) 1 tx.a_is_rising tx.d_is_rising ["row"] (spP K T 1 f_is_rising) :=
    fn_pure tx.F_is_rising sc_is_rising (by decide) fun cdv A outer s H E hr tk hp =>
      (xb_one (xs_ret (xe_callB (cr_all rfl) p_all tx.z_all (by decide +kernel) (xa_cons (XF.xe (xf_lc rfl sc_is_rising.nd (xi_zip tx.z_zip (xa_cons (xe_name 0) (xa_cons (xe_sl (xe_name 0) (xo_some xe_int) xo_none) xa_nil))) (blkOk_by (own := [("one", 1), ("other", 2)]) (by kernel_rfl)) (fun _ _ _ _ _ => (xgo_tup rfl (xgos_cons (xgo_name 1 sc_is_rising.nd) (xgos_cons (xgo_name 2 sc_is_rising.nd) xgos_nil)))) (fun _ _ _ _ _ => xts_nil) (fun _ _ _ _ _ => (xe_cmp op_ltA p_lt (xe_name 1) (xe_name 2))))) xa_nil))))
/-! #### is_list -/
theorem sc_is_list : FnScope ["thing", "own"] ["thing"] (defScope s_is_list) := ⟨rfl, rfl, rfl, by decide +kernel, rfl, by decide +kernel, by decide +kernel⟩
theorem b_is_list (tx : Tx K mg T) : Binds K tx.d_is_list ["thing"] [] := tx.F_is_list.binds fun _ _ _ _ _ _ us hl => match us, hl with | [_], _ => rfl
theorem kw_is_list (tx : Tx K mg T) : KwB K tx.d_is_list ["thing"] := kwB_of tx.F_is_list fun _ _ _ _ _ _ us hl => match us, hl with | [_], _ => rfl
def m_is_list_e1 : Rho → R VD := (callE f_is_name (consA (nameE 1) nilA))
def m_is_list_c1 : Rho → R (List D) := (compF [1] (seqI (nameE 0)) (nameG 1) yesT m_is_list_e1)
def m_is_list : Rho → O := (retS (andE (isiE ["tuple"] (nameE 0)) (andE (opNE allD (consA (frzE m_is_list_c1) nilA)) (op2E eqD (opNE lenSetD (consA (nameE 0) nilA)) (opNE lenD (consA (nameE 0) nilA))))))
def f_is_list : List D → Res := runF 1 2 m_is_list
theorem ok_is_list (tx : Tx K mg T) : FnOk P w K mg base (L2.CX P w) 2 tx.a_is_list tx.d_is_list ["thing"] (spP K T 1 f_is_list) :=
    fn_pure tx.F_is_list sc_is_list (by decide) fun cdv A outer s H E hr tk hp =>
      (xb_one (xs_ret (xe_and (xe_isi1 (t := "tuple") tx.z_isinstance (by decide +kernel) tx.z_tuple (by decide +kernel) (xe_name 0) (by decide)) (xe_and (xe_callB (cr_all rfl) p_all tx.z_all (by decide +kernel) (xa_cons (XF.xe (xf_lc rfl sc_is_list.nd (xi_seq (xe_name 0)) (blkOk_by (own := [("own", 1)]) (by kernel_rfl)) (fun _ _ _ _ _ => (xgo_name 1 sc_is_list.nd)) (fun _ _ _ _ _ => xts_nil) (fun _ _ _ _ _ => (xe_call (ok_is_name tx) (hr.mono (by decide)) tx.g_is_name tx.F_is_name.kp (b_is_name tx) takes0 runF_len (xa_cons (xe_name 1) xa_nil))))) xa_nil)) (xe_one (xe_cmp (op_eqA hr.units) p_eq (xe_lenSet rfl tx.z_len tx.z_set (xa_cons (xe_name 0) xa_nil)) (xe_callB call_len p_len tx.z_len (by decide +kernel) (xa_cons (xe_name 0) xa_nil))))))))
/-! #### is_share -/
theorem sc_is_share : FnScope ["order", "thing", "own"] ["order", "thing"] (defScope s_is_share) := ⟨rfl, rfl, rfl, by decide +kernel, rfl, by decide +kernel, by decide +kernel⟩
theorem b_is_share (tx : Tx K mg T) : Binds K tx.d_is_share ["order", "thing"] [] := tx.F_is_share.binds fun _ _ _ _ _ _ us hl => match us, hl with | [_, _], _ => rfl
theorem kw_is_share (tx : Tx K mg T) : KwB K tx.d_is_share ["order", "thing"] := kwB_of tx.F_is_share fun _ _ _ _ _ _ us hl => match us, hl with | [_, _], _ => rfl
def m_is_share_e1 : Rho → R VD := (op2E inD (nameE 2) (nameE 0))
def m_is_share_c1 : Rho → R (List D) := (compF [2] (seqI (nameE 1)) (nameG 2) yesT m_is_share_e1)
def m_is_share : Rho → O := (retS (andE (callE f_is_list (consA (nameE 1) nilA)) (andE (callE f_is_rising (consA (nameE 1) nilA)) (opNE allD (consA (frzE m_is_share_c1) nilA)))))
def f_is_share : List D → Res := runF 2 3 m_is_share
theorem ok_is_share (tx : Tx K mg T) : FnOk P w K mg base (L2.CX P w) 3 tx.a_is_share tx.d_is_share ["order", "thing"] (spP K T 2 f_is_share) :=
    fn_pure tx.F_is_share sc_is_share (by decide) fun cdv A outer s H E hr tk hp =>
      (xb_one (xs_ret (xe_and (xe_call (ok_is_list tx) (hr.mono (by decide)) tx.g_is_list tx.F_is_list.kp (b_is_list tx) tk runF_len (xa_cons (xe_name 1) xa_nil)) (xe_and (xe_call (ok_is_rising tx) (hr.mono (by decide)) tx.g_is_rising tx.F_is_rising.kp (b_is_rising tx) tk runF_len (xa_cons (xe_name 1) xa_nil)) (xe_one (xe_callB (cr_all rfl) p_all tx.z_all (by decide +kernel) (xa_cons (XF.xe (xf_lc rfl sc_is_share.nd (xi_seq (xe_name 1)) (blkOk_by (own := [("own", 2)]) (by kernel_rfl)) (fun _ _ _ _ _ => (xgo_name 2 sc_is_share.nd)) (fun _ _ _ _ _ => xts_nil) (fun _ _ _ _ _ => (xe_cmp op_inA p_in (xe_name 2) (xe_name 0))))) xa_nil)))))))
/-! #### check_on -/
theorem sc_check_on : FnScope ["order", "share", "own"] ["order", "share"] (defScope s_check_on) := ⟨rfl, rfl, rfl, by decide +kernel, rfl, by decide +kernel, by decide +kernel⟩
theorem b_check_on (tx : Tx K mg T) : Binds K tx.d_check_on ["order", "share"] [] := tx.F_check_on.binds fun _ _ _ _ _ _ us hl => match us, hl with | [_, _], _ => rfl
theorem kw_check_on (tx : Tx K mg T) : KwB K tx.d_check_on ["order", "share"] := kwB_of tx.F_check_on fun _ _ _ _ _ _ us hl => match us, hl with | [_, _], _ => rfl
def m_check_on_b1 : Rho → O := (ifS (valT (op2E ninD (nameE 2) (nameE 0))) (raiseS 3 (consA (nameE 2) nilA)) nextS)
def m_check_on_l1 : Rho → O := (forS (seqI (nameE 1)) (nameG 2) m_check_on_b1)
def m_check_on : Rho → O := m_check_on_l1
def f_check_on : List D → Res := runF 2 3 m_check_on
theorem ok_check_on (tx : Tx K mg T) : FnOk P w K mg base (L2.CX P w) 3 tx.a_check_on tx.d_check_on ["order", "share"] (spP K T 2 f_check_on) :=
    fn_pure tx.F_check_on sc_check_on (by decide) fun cdv A outer s H E hr tk hp =>
      (xb_one (xs_for hp rfl (xi_seq (xe_name 1)) (xg_name 2 sc_check_on.nd) (xb_one (xs_if (xt_cmp op_ninA p_nin (xe_name 2) (xe_name 0)) (xb_one (xs_raise1 (t := 3) rfl tk tx.E_NoThing (in_NoThing tx) (hr.mono (by decide)) (bI_NoThing tx) rfl (xa_cons (xe_name 2) xa_nil))) xb_nil))))
/-! #### by_list -/
theorem sc_by_list : FnScope ["order", "share", "own"] ["order", "share"] (defScope s_by_list) := ⟨rfl, rfl, rfl, by decide +kernel, rfl, by decide +kernel, by decide +kernel⟩
theorem b_by_list (tx : Tx K mg T) : Binds K tx.d_by_list ["order", "share"] [] := tx.F_by_list.binds fun _ _ _ _ _ _ us hl => match us, hl with | [_, _], _ => rfl
theorem kw_by_list (tx : Tx K mg T) : KwB K tx.d_by_list ["order", "share"] := kwB_of tx.F_by_list fun _ _ _ _ _ _ us hl => match us, hl with | [_, _], _ => rfl
def m_by_list_t1 : Rho → R Bool := (valT (op2E inD (nameE 2) (nameE 1)))
def m_by_list_e1 : Rho → R VD := (nameE 2)
def m_by_list_c1 : Rho → R (List D) := (compF [2] (seqI (nameE 0)) (nameG 2) m_by_list_t1 m_by_list_e1)
def m_by_list : Rho → O := (seqS (dropS (callE f_check_on (consA (nameE 0) (consA (nameE 1) nilA))))
  (retS (opNE tupleD (consA (frzE m_by_list_c1) nilA))))
def f_by_list : List D → Res := runF 2 3 m_by_list
theorem ok_by_list (tx : Tx K mg T) : FnOk P w K mg base (L2.CX P w) 4 tx.a_by_list tx.d_by_list ["order", "share"] (spP K T 2 f_by_list) :=
    fn_pure tx.F_by_list sc_by_list (by decide) fun cdv A outer s H E hr tk hp =>
      (xb_cons (xs_expr (xe_call (ok_check_on tx) (hr.mono (by decide)) tx.g_check_on tx.F_check_on.kp (b_check_on tx) tk runF_len (xa_cons (xe_name 0) (xa_cons (xe_name 1) xa_nil))))
      (xb_one (xs_ret (xe_callTy call_tuple_of p_tuple tx.z_tuple (by decide +kernel) (xa_cons (XF.xe (xf_lc rfl sc_by_list.nd (xi_seq (xe_name 0)) (blkOk_by (own := [("own", 2)]) (by kernel_rfl)) (fun _ _ _ _ _ => (xgo_name 2 sc_by_list.nd)) (fun _ _ _ _ _ => (xts_one (xt_cmp op_inA p_in (xe_name 2) (xe_name 1)))) (fun _ _ _ _ _ => (xe_name 2)))) xa_nil)))))
/-! #### places_on -/
theorem sc_places_on : FnScope ["order", "share", "place", "own"] ["order", "share"] (defScope s_places_on) := ⟨rfl, rfl, rfl, by decide +kernel, rfl, by decide +kernel, by decide +kernel⟩
theorem b_places_on (tx : Tx K mg T) : Binds K tx.d_places_on ["order", "share"] [] := tx.F_places_on.binds fun _ _ _ _ _ _ us hl => match us, hl with | [_, _], _ => rfl
theorem kw_places_on (tx : Tx K mg T) : KwB K tx.d_places_on ["order", "share"] := kwB_of tx.F_places_on fun _ _ _ _ _ _ us hl => match us, hl with | [_, _], _ => rfl
def m_places_on_t1 : Rho → R Bool := (valT (op2E inD (nameE 3) (nameE 1)))
def m_places_on_e1 : Rho → R VD := (op2E addD (nameE 2) (constE (.int 1)))
def m_places_on_c1 : Rho → R (List D) := (compF [2, 3] (enumA (consA (nameE 0) nilA)) (tupG 2 (consG (nameG 2) (consG (nameG 3) nilG))) m_places_on_t1 m_places_on_e1)
def m_places_on : Rho → O := (seqS (dropS (callE f_check_on (consA (nameE 0) (consA (nameE 1) nilA))))
  (retS (opNE tupleD (consA (frzE m_places_on_c1) nilA))))
def f_places_on : List D → Res := runF 2 4 m_places_on
theorem ok_places_on (tx : Tx K mg T) : FnOk P w K mg base (L2.CX P w) 4 tx.a_places_on tx.d_places_on ["order", "share"] (spP K T 2 f_places_on) :=
    fn_pure tx.F_places_on sc_places_on (by decide) fun cdv A outer s H E hr tk hp =>
      (xb_cons (xs_expr (xe_call (ok_check_on tx) (hr.mono (by decide)) tx.g_check_on tx.F_check_on.kp (b_check_on tx) tk runF_len (xa_cons (xe_name 0) (xa_cons (xe_name 1) xa_nil))))
      (xb_one (xs_ret (xe_callTy call_tuple_of p_tuple tx.z_tuple (by decide +kernel) (xa_cons (XF.xe (xf_lc rfl sc_places_on.nd (xi_enumA tx.z_enumerate (xa_cons (xe_name 0) xa_nil)) (blkOk_by (own := [("place", 2), ("own", 3)]) (by kernel_rfl)) (fun _ _ _ _ _ => (xgo_tup rfl (xgos_cons (xgo_name 2 sc_places_on.nd) (xgos_cons (xgo_name 3 sc_places_on.nd) xgos_nil)))) (fun _ _ _ _ _ => (xts_one (xt_cmp op_inA p_in (xe_name 3) (xe_name 1)))) (fun _ _ _ _ _ => (xe_op op_addA p_add (xe_name 2) xe_int)))) xa_nil)))))
/-! #### kth_best -/
theorem sc_kth_best : FnScope ["order", "share", "number", "row"] ["order", "share", "number"] (defScope s_kth_best) := ⟨rfl, rfl, rfl, by decide +kernel, rfl, by decide +kernel, by decide +kernel⟩
theorem b_kth_best (tx : Tx K mg T) : Binds K tx.d_kth_best ["order", "share", "number"] [] := tx.F_kth_best.binds fun _ _ _ _ _ _ us hl => match us, hl with | [_, _, _], _ => rfl
theorem kw_kth_best (tx : Tx K mg T) : KwB K tx.d_kth_best ["order", "share", "number"] := kwB_of tx.F_kth_best fun _ _ _ _ _ _ us hl => match us, hl with | [_, _, _], _ => rfl
def m_kth_best : Rho → O := (seqS (asgS 3 (callE f_by_list (consA (nameE 0) (consA (nameE 1) nilA))))
  (seqS (ifS (notT (valT (chainE leD leD (constE (.int 1)) (nameE 2) (opNE lenD (consA (nameE 3) nilA))))) (raiseS 11 (consA (nameE 2) nilA)) nextS)
  (retS (op2E atD (nameE 3) (op2E subD (nameE 2) (constE (.int 1)))))))
def f_kth_best : List D → Res := runF 3 4 m_kth_best
theorem ok_kth_best (tx : Tx K mg T) : FnOk P w K mg base (L2.CX P w) 5 tx.a_kth_best tx.d_kth_best ["order", "share", "number"] (spP K T 3 f_kth_best) :=
    fn_pure tx.F_kth_best sc_kth_best (by decide) fun cdv A outer s H E hr tk hp =>
      (xb_cons (xs_set 3 sc_kth_best.nd (xe_call (ok_by_list tx) (hr.mono (by decide)) tx.g_by_list tx.F_by_list.kp (b_by_list tx) tk runF_len (xa_cons (xe_name 0) (xa_cons (xe_name 1) xa_nil))))
      (xb_cons (xs_if (xt_not (xt_chain op_le p_le op_le p_le xe_int (xe_name 2) (xe_callB call_len p_len tx.z_len (by decide +kernel) (xa_cons (xe_name 3) xa_nil)))) (xb_one (xs_raise1 (t := 11) rfl tk tx.E_NoNumber (in_NoNumber tx) (hr.mono (by decide)) (bI_NoNumber tx) rfl (xa_cons (xe_name 2) xa_nil))) xb_nil)
      (xb_one (xs_ret (xe_ix ix_seq p_ix (xe_name 3) (xe_op op_sub p_sub (xe_name 2) xe_int))))))
/-! #### _law_box -/
theorem sc_law_box : FnScope ["_law_script", "_law_k", "_law_cell"] ["_law_script", "_law_k"] (defScope s_law_box) := ⟨rfl, rfl, rfl, by decide +kernel, rfl, by decide +kernel, by decide +kernel⟩
theorem b_law_box (tx : Tx K mg T) : Binds K tx.d_law_box ["_law_script", "_law_k"] [] := tx.F_law_box.binds fun _ _ _ _ _ _ us hl => match us, hl with | [_, _], _ => rfl
def m_law_box : Rho → O := (seqS (asgS 2 (ifE (valT (op2E ltD (nameE 1) (opNE lenD (consA (nameE 0) nilA)))) (op2E atD (nameE 0) (nameE 1)) (constE (.int 0))))
  (retF (lstF (consA (op2E mulD (opNE absD (consA (nameE 2) nilA)) (opNE intD (consA (op2E geD (opNE absD (consA (nameE 2) nilA)) (op2E powD (constE (.int 10)) (constE (.int 18)))) nilA))) (consA (op2E addD (op2E addD (op2E modD (opNE intD (consA (nameE 2) nilA)) (constE (.int 2305843009213693951))) (op2E mulD (constE (.int 39373)) (nameE 1))) (constE (.int 83053))) (consA (constE (.int 0)) nilA))))))
def f_law_box : List D → Option (List D) := runL 2 3 m_law_box
theorem ok_law_box (tx : Tx K mg T) : FnOk P w K mg base (L2.CX P w) 1 tx.a_law_box tx.d_law_box ["_law_script", "_law_k"] (spL K T 2 f_law_box) :=
    fn_new tx.F_law_box sc_law_box fun cdv A outer s H E hr hp =>
      (xb_cons (xs_set 2 sc_law_box.nd (xe_if (xt_cmp op_ltA p_lt (xe_name 1) (xe_callB call_len p_len tx.z_len (by decide +kernel) (xa_cons (xe_name 0) xa_nil))) (xe_ix ix_seq p_ix (xe_name 0) (xe_name 1)) xe_int))
      (xb_one (xs_retF (xf_lst (xa_cons (xe_op op_mulA p_mul (xe_callB call_abs p_abs tx.z_abs (by decide +kernel) (xa_cons (xe_name 2) xa_nil)) (xe_callTy call_intA p_int tx.z_int (by decide +kernel) (xa_cons (xe_cmp op_ge p_ge (xe_callB call_abs p_abs tx.z_abs (by decide +kernel) (xa_cons (xe_name 2) xa_nil)) (xe_op op_pow p_pow xe_int xe_int)) xa_nil))) (xa_cons (xe_op op_addA p_add (xe_op op_addA p_add (xe_op op_mod p_mod (xe_callTy call_intA p_int tx.z_int (by decide +kernel) (xa_cons (xe_name 2) xa_nil)) xe_int) (xe_op op_mulA p_mul xe_int (xe_name 1))) xe_int) (xa_cons xe_int xa_nil)))))))
/-! #### _law_take -/
theorem sc_law_take : FnScope ["_law_box_here", "_law_size_so", "_law_some", "_law_once", "_law_far", "_law_again"] ["_law_box_here", "_law_size_so"] (defScope s_law_take) := ⟨rfl, rfl, rfl, by decide +kernel, rfl, by decide +kernel, by decide +kernel⟩
theorem b_law_take (tx : Tx K mg T) : Binds K tx.d_law_take ["_law_box_here", "_law_size_so"] [] := tx.F_law_take.binds fun _ _ _ _ _ _ us hl => match us, hl with | [_, _], _ => rfl
def m_law_take : Rho → O := (seqS (ifS (valT (op2E gtD (op2E atD (nameE 0) (constE (.int 0))) (constE (.int 0)))) (seqS (asgS 2 (op2E modD (opNE intD (consA (op2E atD (nameE 0) (constE (.int 0))) nilA)) (nameE 1)))
  (seqS (putItem 0 (op2E fdivD (op2E atD (nameE 0) (constE (.int 0))) (nameE 1)) (constE (.int 0)))
  (retS (nameE 2)))) nextS)
  (seqS (putItem 0 (op2E addD (op2E atD (nameE 0) (constE (.int 2))) (constE (.int 1))) (constE (.int 2)))
  (seqS (asgS 3 (op2E modD (opNE intD (consA (op2E mulD (op2E addD (op2E atD (nameE 0) (constE (.int 1))) (op2E mulD (constE (.int 48271)) (op2E atD (nameE 0) (constE (.int 2))))) (op2E addD (constE (.int 39373)) (op2E atD (nameE 0) (constE (.int 2))))) nilA)) (constE (.int 2147483647))))
  (seqS (asgS 4 (op2E addD (op2E modD (opNE intD (consA (nameE 3) nilA)) (constE (.int 40009))) (constE (.int 7))))
  (seqS (asgS 5 (op2E modD (opNE intD (consA (op2E mulD (op2E addD (op2E addD (nameE 3) (op2E atD (nameE 0) (constE (.int 2)))) (op2E fdivD (op2E atD (nameE 0) (constE (.int 1))) (constE (.int 1000003)))) (nameE 4)) nilA)) (constE (.int 2147483629))))
  (retS (op2E modD (opNE intD (consA (op2E fdivD (op2E modD (opNE intD (consA (op2E addD (op2E mulD (nameE 5) (constE (.int 48271))) (nameE 3)) nilA)) (constE (.int 2147483587))) (constE (.int 64))) nilA)) (nameE 1))))))))
def f_law_take : List Int → List D → Option (D × List Int) := runB 1 5 m_law_take
theorem ok_law_take (tx : Tx K mg T) : FnOk P w K mg base (L2.CX P w) 1 tx.a_law_take tx.d_law_take ["_law_box_here", "_law_size_so"] (spB K T 1 f_law_take) :=
    fn_box tx.F_law_take sc_law_take (by decide) rfl rfl fun cdv A outer s H E hr hp =>
      (xb_cons (xs_if (xt_cmp op_gt p_gt (xe_ix ix_seq p_ix (xe_name 0) xe_int) xe_int) (xb_cons (xs_set 2 sc_law_take.nd (xe_op op_mod p_mod (xe_callTy call_intA p_int tx.z_int (by decide +kernel) (xa_cons (xe_ix ix_seq p_ix (xe_name 0) xe_int) xa_nil)) (xe_name 1)))
      (xb_cons (xs_item 0 (xe_op op_fdiv p_fdiv (xe_ix ix_seq p_ix (xe_name 0) xe_int) (xe_name 1)) xe_int)
      (xb_one (xs_ret (xe_name 2))))) xb_nil)
      (xb_cons (xs_item 0 (xe_op op_addA p_add (xe_ix ix_seq p_ix (xe_name 0) xe_int) xe_int) xe_int)
      (xb_cons (xs_set 3 sc_law_take.nd (xe_op op_mod p_mod (xe_callTy call_intA p_int tx.z_int (by decide +kernel) (xa_cons (xe_op op_mulA p_mul (xe_op op_addA p_add (xe_ix ix_seq p_ix (xe_name 0) xe_int) (xe_op op_mulA p_mul xe_int (xe_ix ix_seq p_ix (xe_name 0) xe_int))) (xe_op op_addA p_add xe_int (xe_ix ix_seq p_ix (xe_name 0) xe_int))) xa_nil)) xe_int))
      (xb_cons (xs_set 4 sc_law_take.nd (xe_op op_addA p_add (xe_op op_mod p_mod (xe_callTy call_intA p_int tx.z_int (by decide +kernel) (xa_cons (xe_name 3) xa_nil)) xe_int) xe_int))
      (xb_cons (xs_set 5 sc_law_take.nd (xe_op op_mod p_mod (xe_callTy call_intA p_int tx.z_int (by decide +kernel) (xa_cons (xe_op op_mulA p_mul (xe_op op_addA p_add (xe_op op_addA p_add (xe_name 3) (xe_ix ix_seq p_ix (xe_name 0) xe_int)) (xe_op op_fdiv p_fdiv (xe_ix ix_seq p_ix (xe_name 0) xe_int) xe_int)) (xe_name 4)) xa_nil)) xe_int))
      (xb_one (xs_ret (xe_op op_mod p_mod (xe_callTy call_intA p_int tx.z_int (by decide +kernel) (xa_cons (xe_op op_fdiv p_fdiv (xe_op op_mod p_mod (xe_callTy call_intA p_int tx.z_int (by decide +kernel) (xa_cons (xe_op op_addA p_add (xe_op op_mulA p_mul (xe_name 5) xe_int) (xe_name 3)) xa_nil)) xe_int) xe_int) xa_nil)) (xe_name 1)))))))))
/-! #### _law_cells -/
theorem sc_law_cells : FnScope ["_law_script", "_law_top_so", "_law_cells_so", "_law_k", "_law_cell", "_law_at_so"] ["_law_script", "_law_top_so"] (defScope s_law_cells) := ⟨rfl, rfl, rfl, by decide +kernel, rfl, by decide +kernel, by decide +kernel⟩
theorem b_law_cells (tx : Tx K mg T) : Binds K tx.d_law_cells ["_law_script", "_law_top_so"] [] := tx.F_law_cells.binds fun _ _ _ _ _ _ us hl => match us, hl with | [_, _], _ => rfl
theorem kw_law_cells (tx : Tx K mg T) : KwB K tx.d_law_cells ["_law_script", "_law_top_so"] := kwB_of tx.F_law_cells fun _ _ _ _ _ _ us hl => match us, hl with | [_, _], _ => rfl
def m_law_cells_g1 : D → Rho → Option Rho := (tupG 2 (consG (nameG 3) (consG (nameG 4) nilG)))
def m_law_cells_b1 : Rho → O := (seqS (asgS 5 (op2E modD (opNE intD (consA (nameE 3) nilA)) (nameE 1)))
  (putItem 2 (op2E addD (op2E atD (nameE 2) (nameE 5)) (op2E mulD (nameE 4) (op2E addD (nameE 3) (constE (.int 2))))) (nameE 5)))
def m_law_cells_l1 : Rho → O := (forS (enumA (consA (slE (nameE 0) (aPart (nameE 1)) (aPart (constE (.int 63)))) nilA)) m_law_cells_g1 m_law_cells_b1)
def m_law_cells : Rho → O := (seqS (asgM 2 (orF (opNF listF (consA (slE (nameE 0) noPart (aPart (nameE 1))) nilA)) (lstF (consA (constE (.int 0)) nilA))))
  (seqS m_law_cells_l1
  (retS (nameE 2))))
def f_law_cells : List D → Res := runF 2 6 m_law_cells
theorem ok_law_cells (tx : Tx K mg T) : FnOk P w K mg base (L2.CX P w) 1 tx.a_law_cells tx.d_law_cells ["_law_script", "_law_top_so"] (spP K T 2 f_law_cells) :=
    fn_pure tx.F_law_cells sc_law_cells (by decide) fun cdv A outer s H E hr tk hp =>
      (xb_cons (xs_setM 2 sc_law_cells.nd (xf_or (xf_callTy call_list_of p_list tx.z_list (by decide +kernel) (xa_cons (xe_sl (xe_name 0) xo_none (xo_some (xe_name 1))) xa_nil)) (xf_lst (xa_cons xe_int xa_nil))))
      (xb_cons (xs_for hp rfl (xi_enumA tx.z_enumerate (xa_cons (xe_sl (xe_name 0) (xo_some (xe_name 1)) (xo_some xe_int)) xa_nil)) (xg_tup rfl (xgs_cons (xg_name 3 sc_law_cells.nd) (xgs_cons (xg_name 4 sc_law_cells.nd) xgs_nil))) (xb_cons (xs_set 5 sc_law_cells.nd (xe_op op_mod p_mod (xe_callTy call_intA p_int tx.z_int (by decide +kernel) (xa_cons (xe_name 3) xa_nil)) (xe_name 1)))
      (xb_one (xs_item 2 (xe_op op_addA p_add (xe_ix ix_seq p_ix (xe_name 2) (xe_name 5)) (xe_op op_mulA p_mul (xe_name 4) (xe_op op_addA p_add (xe_name 3) xe_int))) (xe_name 5)))))
      (xb_one (xs_ret (xe_name 2)))))
/-! #### _law_pick -/
theorem sc_law_pick : FnScope ["_law_box_here", "_law_goods_so", "_law_count_so", "_law_pool_so", "_law_found", "_law_turn"] ["_law_box_here", "_law_goods_so", "_law_count_so"] (defScope s_law_pick) := ⟨rfl, rfl, rfl, by decide +kernel, rfl, by decide +kernel, by decide +kernel⟩
theorem b_law_pick (tx : Tx K mg T) : Binds K tx.d_law_pick ["_law_box_here", "_law_goods_so", "_law_count_so"] [] := tx.F_law_pick.binds fun _ _ _ _ _ _ us hl => match us, hl with | [_, _, _], _ => rfl
def m_law_pick_b1 : Rho → O := (dropS (appE 4 (consA (popE 3 (consA (callBE f_law_take (consA (nameE 0) (consA (opNE lenD (consA (nameE 3) nilA)) nilA))) nilA)) nilA)))
def m_law_pick_l1 : Rho → O := (forS (rngI1 (consA (opNE min2D (consA (opNE intD (consA (nameE 2) nilA)) (consA (opNE lenD (consA (nameE 3) nilA)) nilA))) nilA)) (nameG 5) m_law_pick_b1)
def m_law_pick : Rho → O := (seqS (parS [3, 4] (consMf' (opNF listF (consA (nameE 1) nilA)) (consMf' (lstF nilA) nilM)))
  (seqS m_law_pick_l1
  (retS (nameE 4))))
def f_law_pick : List Int → List D → Option (D × List Int) := runB 2 5 m_law_pick
theorem ok_law_pick (tx : Tx K mg T) : FnOk P w K mg base (L2.CX P w) 2 tx.a_law_pick tx.d_law_pick ["_law_box_here", "_law_goods_so", "_law_count_so"] (spB K T 2 f_law_pick) :=
    fn_box tx.F_law_pick sc_law_pick (by decide) rfl rfl fun cdv A outer s H E hr hp =>
      (xb_cons (by first | exact (xs_par2 3 4 rfl sc_law_pick.nd (xm_f (xf_callTy call_list_of p_list tx.z_list (by decide +kernel) (xa_cons (xe_name 1) xa_nil)) (xm_f (xf_lst xa_nil) xm_nil))) | exact (xs_parN (is := [3, 4]) rfl (by decide) rfl (by decide) (xm_f (xf_callTy call_list_of p_list tx.z_list (by decide +kernel) (xa_cons (xe_name 1) xa_nil)) (xm_f (xf_lst xa_nil) xm_nil)) (pgs_names (pgs_cons (pg_name (i := 3) sc_law_pick.nd rfl (by first | exact Or.inl rfl | exact Or.inr rfl)) (pgs_cons (pg_name (i := 4) sc_law_pick.nd rfl (by first | exact Or.inl rfl | exact Or.inr rfl)) pgs_nil)) (gn_cons (i := 3) (gn_cons (i := 4) gn_nil)))))
      (xb_cons (xs_for hp rfl (xi_range1 tx.z_range (xa_cons (xe_callB (call_min2 rfl) p_min2 tx.z_min (by decide +kernel) (xa_cons (xe_callTy call_intA p_int tx.z_int (by decide +kernel) (xa_cons (xe_name 2) xa_nil)) (xa_cons (xe_callB call_len p_len tx.z_len (by decide +kernel) (xa_cons (xe_name 3) xa_nil)) xa_nil))) xa_nil)) (xg_name 5 sc_law_pick.nd) (xb_one (xs_expr (xe_append 4 (xa_cons (xe_pop 3 (xa_cons (xe_callBx (ok_law_take tx) (hr.mono (by decide)) tx.g_law_take tx.F_law_take.kp (b_law_take tx) takes0 runB_len (xa_cons (xe_name 0) (xa_cons (xe_callB call_len p_len tx.z_len (by decide +kernel) (xa_cons (xe_name 3) xa_nil)) xa_nil))) xa_nil)) xa_nil)))))
      (xb_one (xs_ret (xe_name 4)))))
/-! #### _law_same -/
theorem sc_law_same : FnScope ["_law_got", "_law_due", "_law_mine", "_law_its"] ["_law_got", "_law_due"] (defScope s_law_same) := ⟨rfl, rfl, rfl, by decide +kernel, rfl, by decide +kernel, by decide +kernel⟩
theorem b_law_same (tx : Tx K mg T) : Binds K tx.d_law_same ["_law_got", "_law_due"] [] := tx.F_law_same.binds fun _ _ _ _ _ _ us hl => match us, hl with | [_, _], _ => rfl
def m_law_same_e1 (self : List D → Res) : Rho → R VD := (callE self (consA (nameE 2) (consA (nameE 3) nilA)))
def m_law_same_c1 (self : List D → Res) : Rho → R (List D) := (compF [2, 3] (zipI (consA (nameE 0) (consA (nameE 1) nilA))) (tupG 2 (consG (nameG 2) (consG (nameG 3) nilG))) yesT (m_law_same_e1 self))
def m_law_same (self : List D → Res) : Rho → O := (seqS (ifS (valT (isiE ["list", "tuple"] (nameE 1))) (seqS (ifS (valT (op2E neD (isiE ["list"] (nameE 0)) (isiE ["list"] (nameE 1)))) (retS (constE (.bl false))) nextS)
  (seqS (ifS (valT (op2E neD (isiE ["tuple"] (nameE 0)) (isiE ["tuple"] (nameE 1)))) (retS (constE (.bl false))) nextS)
  (retS (andE (op2E eqD (opNE lenD (consA (nameE 0) nilA)) (opNE lenD (consA (nameE 1) nilA))) (opNE allD (consA (frzE (m_law_same_c1 self)) nilA)))))) nextS)
  (seqS (ifS (orT (valT (op2E isD (nameE 1) (constE .non))) (valT (isiE ["bool", "str"] (nameE 1)))) (retS (andE (op2E eqD (nameE 0) (nameE 1)) (andE (op2E eqD (isiE ["bool"] (nameE 0)) (isiE ["bool"] (nameE 1))) (op2E eqD (op2E isD (nameE 0) (constE .non)) (op2E isD (nameE 1) (constE .non)))))) nextS)
  (retS (andE (isiE ["int"] (nameE 0)) (andE (notE (isiE ["bool"] (nameE 0))) (op2E eqD (nameE 0) (nameE 1)))))))
def f_law_same : Nat → List D → Res
  | 0 => fun _ => .bad
  | n + 1 => runF 2 4 (m_law_same (f_law_same n))
theorem f_law_same_len : ∀ (n : Nat) (ds : List D), f_law_same n ds ≠ .bad → ds.length = 2
  | 0, _, h => (h rfl).elim
  | n + 1, ds, h => runF_len ds h
theorem ok_law_same (tx : Tx K mg T) : ∀ n : Nat, FnOk P w K mg base (L2.CX P w) (n + 1) tx.a_law_same tx.d_law_same ["_law_got", "_law_due"] (spP K T 2 (f_law_same n))
  | 0 => fn_bad tx.F_law_same sc_law_same
  | n + 1 => have ih := ok_law_same tx n
    fn_pure (k := n + 1) tx.F_law_same sc_law_same (by decide) fun cdv A outer s H E hr tk hp =>
      (xb_cons (xs_if (xt_val (xe_isi2 (t := "list") (t' := "tuple") tx.z_isinstance (by decide +kernel) tx.z_list (by decide +kernel) tx.z_tuple (by decide +kernel) (xe_name 1) (by decide) (by decide))) (xb_cons (xs_if (xt_cmp (op_neA hr.units) p_ne (xe_isi1 (t := "list") tx.z_isinstance (by decide +kernel) tx.z_list (by decide +kernel) (xe_name 0) (by decide)) (xe_isi1 (t := "list") tx.z_isinstance (by decide +kernel) tx.z_list (by decide +kernel) (xe_name 1) (by decide))) (xb_one (xs_ret xe_bl)) xb_nil)
      (xb_cons (xs_if (xt_cmp (op_neA hr.units) p_ne (xe_isi1 (t := "tuple") tx.z_isinstance (by decide +kernel) tx.z_tuple (by decide +kernel) (xe_name 0) (by decide)) (xe_isi1 (t := "tuple") tx.z_isinstance (by decide +kernel) tx.z_tuple (by decide +kernel) (xe_name 1) (by decide))) (xb_one (xs_ret xe_bl)) xb_nil)
      (xb_one (xs_ret (xe_and (xe_cmp (op_eqA hr.units) p_eq (xe_callB call_len p_len tx.z_len (by decide +kernel) (xa_cons (xe_name 0) xa_nil)) (xe_callB call_len p_len tx.z_len (by decide +kernel) (xa_cons (xe_name 1) xa_nil))) (xe_one (xe_callB (cr_all rfl) p_all tx.z_all (by decide +kernel) (xa_cons (XF.xe (xf_lc rfl sc_law_same.nd (xi_zip tx.z_zip (xa_cons (xe_name 0) (xa_cons (xe_name 1) xa_nil))) (blkOk_by (own := [("_law_mine", 2), ("_law_its", 3)]) (by kernel_rfl)) (fun _ _ _ _ _ => (xgo_tup rfl (xgos_cons (xgo_name 2 sc_law_same.nd) (xgos_cons (xgo_name 3 sc_law_same.nd) xgos_nil)))) (fun _ _ _ _ _ => xts_nil) (fun _ _ _ _ _ => (xe_call ih (hr.mono (by omega)) tx.g_law_same tx.F_law_same.kp (b_law_same tx) takes0 (f_law_same_len n) (xa_cons (xe_name 2) (xa_cons (xe_name 3) xa_nil)))))) xa_nil)))))))) xb_nil)
      (xb_cons (xs_if (XW.xt (xw_or (xt_cmp op_isN p_is (xe_name 1) xe_non) (xw_or1 (xt_val (xe_isi2 (t := "bool") (t' := "str") tx.z_isinstance (by decide +kernel) tx.z_bool (by decide +kernel) tx.z_str (by decide +kernel) (xe_name 1) (by decide) (by decide)))))) (xb_one (xs_ret (xe_and (xe_cmp (op_eqA hr.units) p_eq (xe_name 0) (xe_name 1)) (xe_and (xe_cmp (op_eqA hr.units) p_eq (xe_isi1 (t := "bool") tx.z_isinstance (by decide +kernel) tx.z_bool (by decide +kernel) (xe_name 0) (by decide)) (xe_isi1 (t := "bool") tx.z_isinstance (by decide +kernel) tx.z_bool (by decide +kernel) (xe_name 1) (by decide))) (xe_one (xe_cmp (op_eqA hr.units) p_eq (xe_cmp op_isN p_is (xe_name 0) xe_non) (xe_cmp op_isN p_is (xe_name 1) xe_non))))))) xb_nil)
      (xb_one (xs_ret (xe_and (xe_isi1 (t := "int") tx.z_isinstance (by decide +kernel) tx.z_int (by decide +kernel) (xe_name 0) (by decide)) (xe_and (xe_not (xe_isi1 (t := "bool") tx.z_isinstance (by decide +kernel) tx.z_bool (by decide +kernel) (xe_name 0) (by decide))) (xe_one (xe_cmp (op_eqA hr.units) p_eq (xe_name 0) (xe_name 1)))))))))
/-! #### _law_tags -/
theorem sc_law_tags : FnScope ["_law_box_here", "_law_many_so"] ["_law_box_here", "_law_many_so"] (defScope s_law_tags) := ⟨rfl, rfl, rfl, by decide +kernel, rfl, by decide +kernel, by decide +kernel⟩
theorem b_law_tags (tx : Tx K mg T) : Binds K tx.d_law_tags ["_law_box_here", "_law_many_so"] [] := tx.F_law_tags.binds fun _ _ _ _ _ _ us hl => match us, hl with | [_, _], _ => rfl
def m_law_tags : Rho → O := (retS (opNE tupleD (consA (frzE (opNF sortedF (consA (callBE f_law_pick (consA (nameE 0) (consA (frzE (lstF (consA (constE (.str "a")) (consA (constE (.str "ab")) (consA (constE (.str "b")) (consA (constE (.str "bag")) (consA (constE (.str "cup")) (consA (constE (.str "for")) (consA (constE (.str "x")) (consA (constE (.str "z")) (consA (constE (.str "zzzzzzzz")) nilA))))))))))) (consA (nameE 1) nilA)))) nilA))) nilA)))
def f_law_tags : List Int → List D → Option (D × List Int) := runB 1 1 m_law_tags
theorem ok_law_tags (tx : Tx K mg T) : FnOk P w K mg base (L2.CX P w) 3 tx.a_law_tags tx.d_law_tags ["_law_box_here", "_law_many_so"] (spB K T 1 f_law_tags) :=
    fn_box tx.F_law_tags sc_law_tags (by decide) rfl rfl fun cdv A outer s H E hr hp =>
      (xb_one (xs_ret (xe_callTy call_tuple_of p_tuple tx.z_tuple (by decide +kernel) (xa_cons (XF.xe (xf_callB call_sortedA p_sorted tx.z_sorted (by decide +kernel) (xa_cons (xe_callBx (ok_law_pick tx) (hr.mono (by decide)) tx.g_law_pick tx.F_law_pick.kp (b_law_pick tx) takes0 runB_len (xa_cons (xe_name 0) (xa_cons (XF.xe (xf_lst (xa_cons xe_str (xa_cons xe_str (xa_cons xe_str (xa_cons xe_str (xa_cons xe_str (xa_cons xe_str (xa_cons xe_str (xa_cons xe_str (xa_cons xe_str xa_nil))))))))))) (xa_cons (xe_name 1) xa_nil)))) xa_nil))) xa_nil))))
/-! #### _law_mixed -/
theorem sc_law_mixed : FnScope ["_law_box_here", "_law_some", "_law_left_so", "_law_found", "_law_turn"] ["_law_box_here", "_law_some"] (defScope s_law_mixed) := ⟨rfl, rfl, rfl, by decide +kernel, rfl, by decide +kernel, by decide +kernel⟩
theorem b_law_mixed (tx : Tx K mg T) : Binds K tx.d_law_mixed ["_law_box_here", "_law_some"] [] := tx.F_law_mixed.binds fun _ _ _ _ _ _ us hl => match us, hl with | [_, _], _ => rfl
def m_law_mixed_b1 : Rho → O := (dropS (appE 3 (consA (popE 2 (consA (callBE f_law_take (consA (nameE 0) (consA (opNE lenD (consA (nameE 2) nilA)) nilA))) nilA)) nilA)))
def m_law_mixed_l1 : Rho → O := (forS (rngI1 (consA (opNE lenD (consA (nameE 1) nilA)) nilA)) (nameG 4) m_law_mixed_b1)
def m_law_mixed : Rho → O := (seqS (parS [2, 3] (consMf' (opNF listF (consA (nameE 1) nilA)) (consMf' (lstF nilA) nilM)))
  (seqS m_law_mixed_l1
  (retS (opNE tupleD (consA (nameE 3) nilA)))))
def f_law_mixed : List Int → List D → Option (D × List Int) := runB 1 4 m_law_mixed
theorem ok_law_mixed (tx : Tx K mg T) : FnOk P w K mg base (L2.CX P w) 2 tx.a_law_mixed tx.d_law_mixed ["_law_box_here", "_law_some"] (spB K T 1 f_law_mixed) :=
    fn_box tx.F_law_mixed sc_law_mixed (by decide) rfl rfl fun cdv A outer s H E hr hp =>
      (xb_cons (by first | exact (xs_par2 2 3 rfl sc_law_mixed.nd (xm_f (xf_callTy call_list_of p_list tx.z_list (by decide +kernel) (xa_cons (xe_name 1) xa_nil)) (xm_f (xf_lst xa_nil) xm_nil))) | exact (xs_parN (is := [2, 3]) rfl (by decide) rfl (by decide) (xm_f (xf_callTy call_list_of p_list tx.z_list (by decide +kernel) (xa_cons (xe_name 1) xa_nil)) (xm_f (xf_lst xa_nil) xm_nil)) (pgs_names (pgs_cons (pg_name (i := 2) sc_law_mixed.nd rfl (by first | exact Or.inl rfl | exact Or.inr rfl)) (pgs_cons (pg_name (i := 3) sc_law_mixed.nd rfl (by first | exact Or.inl rfl | exact Or.inr rfl)) pgs_nil)) (gn_cons (i := 2) (gn_cons (i := 3) gn_nil)))))
      (xb_cons (xs_for hp rfl (xi_range1 tx.z_range (xa_cons (xe_callB call_len p_len tx.z_len (by decide +kernel) (xa_cons (xe_name 1) xa_nil)) xa_nil)) (xg_name 4 sc_law_mixed.nd) (xb_one (xs_expr (xe_append 3 (xa_cons (xe_pop 2 (xa_cons (xe_callBx (ok_law_take tx) (hr.mono (by decide)) tx.g_law_take tx.F_law_take.kp (b_law_take tx) takes0 runB_len (xa_cons (xe_name 0) (xa_cons (xe_callB call_len p_len tx.z_len (by decide +kernel) (xa_cons (xe_name 2) xa_nil)) xa_nil))) xa_nil)) xa_nil)))))
      (xb_one (xs_ret (xe_callTy call_tuple_of p_tuple tx.z_tuple (by decide +kernel) (xa_cons (xe_name 3) xa_nil))))))
/-! #### _law_refused -/
theorem sc_law_refused : FnScope ["_law_door", "_law_order_so", "_law_lot", "_law_number_so", "_law_caught", "_law_gone", "error"] ["_law_door", "_law_order_so", "_law_lot", "_law_number_so"] (defScope s_law_refused) := ⟨rfl, rfl, rfl, by decide +kernel, rfl, by decide +kernel, by decide +kernel⟩
theorem b_law_refused (tx : Tx K mg T) : Binds K tx.d_law_refused ["_law_door", "_law_order_so", "_law_lot", "_law_number_so"] [] := tx.F_law_refused.binds fun _ _ _ _ _ _ us hl => match us, hl with | [_, _, _, _], _ => rfl
theorem kw_law_refused (tx : Tx K mg T) : KwB K tx.d_law_refused ["_law_door", "_law_order_so", "_law_lot", "_law_number_so"] := kwB_of tx.F_law_refused fun _ _ _ _ _ _ us hl => match us, hl with | [_, _, _, _], _ => rfl
def m_law_refused : Rho → O := (seqS (parS [4, 5] (consMd (constE .non) (consMd (constE .non) nilM)))
  (seqS (tryS (ifS (valT (op2E eqD (nameE 0) (constE (.int 0)))) (dropS (callE f_by_list (consA (nameE 1) (consA (nameE 2) nilA)))) (ifS (valT (op2E eqD (nameE 0) (constE (.int 1)))) (dropS (callE f_places_on (consA (nameE 1) (consA (nameE 2) nilA)))) (dropS (callE f_kth_best (consA (nameE 1) (consA (nameE 2) (consA (nameE 3) nilA))))))) (hAs [(3, true), (11, false)] 6 (asgS 4 (nameE 6)) (hAs [(3, false), (11, true)] 6 (asgS 5 (nameE 6)) hNil)))
  (seqS (ifS (valT (op2E isntD (nameE 4) (constE .non))) (retS (frzE (lstF (consA (constE (.str "thing")) (consA (op1E (fldD [3] "name") (nameE 4)) (consA (op1E (isErrD [(3, true), (11, true)]) (nameE 4)) nilA)))))) nextS)
  (retS (ifE (valT (op2E isntD (nameE 5) (constE .non))) (frzE (lstF (consA (op1E (fldD [11] "number") (nameE 5)) (consA (op1E (isErrD [(3, true), (11, true)]) (nameE 5)) nilA)))) (constE .non))))))
def f_law_refused : List D → Res := runF 4 7 m_law_refused
theorem ok_law_refused (tx : Tx K mg T) : FnOk P w K mg base (L2.CX P w) 6 tx.a_law_refused tx.d_law_refused ["_law_door", "_law_order_so", "_law_lot", "_law_number_so"] (spP K T 4 f_law_refused) :=
    fn_pure tx.F_law_refused sc_law_refused (by decide) fun cdv A outer s H E hr tk hp =>
      (xb_cons (by first | exact (xs_par2 4 5 rfl sc_law_refused.nd (xm_d xe_non (xm_d xe_non xm_nil))) | exact (xs_parN (is := [4, 5]) rfl (by decide) rfl (by decide) (xm_d xe_non (xm_d xe_non xm_nil)) (pgs_names (pgs_cons (pg_name (i := 4) sc_law_refused.nd rfl (by first | exact Or.inl rfl | exact Or.inr rfl)) (pgs_cons (pg_name (i := 5) sc_law_refused.nd rfl (by first | exact Or.inl rfl | exact Or.inr rfl)) pgs_nil)) (gn_cons (i := 4) (gn_cons (i := 5) gn_nil)))))
      (xb_cons (xs_try rfl rfl (fun W' pn xe tk hp => (xb_one (xs_if (xt_cmp (op_eqA hr.units) p_eq (xe_name 0) xe_int) (xb_one (xs_expr (xe_call (ok_by_list tx) (hr.mono (by decide)) tx.g_by_list tx.F_by_list.kp (b_by_list tx) tk runF_len (xa_cons (xe_name 1) (xa_cons (xe_name 2) xa_nil))))) (xb_one (xs_if (xt_cmp (op_eqA hr.units) p_eq (xe_name 0) xe_int) (xb_one (xs_expr (xe_call (ok_places_on tx) (hr.mono (by decide)) tx.g_places_on tx.F_places_on.kp (b_places_on tx) tk runF_len (xa_cons (xe_name 1) (xa_cons (xe_name 2) xa_nil))))) (xb_one (xs_expr (xe_call (ok_kth_best tx) (hr.mono (by decide)) tx.g_kth_best tx.F_kth_best.kp (b_kth_best tx) tk runF_len (xa_cons (xe_name 1) (xa_cons (xe_name 2) (xa_cons (xe_name 3) xa_nil))))))))))) (xh_as 6 rfl rfl rfl sc_law_refused.nd ⟨rfl, by decide, .inl tx.E_NoThing.gC⟩ (hx_NoThing tx) (fun _ _ => (xb_one (xs_set 4 sc_law_refused.nd (xe_name 6)))) (xh_as 6 rfl rfl rfl sc_law_refused.nd ⟨rfl, by decide, .inl tx.E_NoNumber.gC⟩ (hx_NoNumber tx) (fun _ _ => (xb_one (xs_set 5 sc_law_refused.nd (xe_name 6)))) (xh_nil rfl rfl tk))))
      (xb_cons (xs_if (xt_cmp op_notN p_isnt (xe_name 4) xe_non) (xb_one (xs_ret (XF.xe (xf_lst (xa_cons xe_str (xa_cons (xe_efld (ts := [3]) (exf_cons tx.E_NoThing.xf tx.E_NoThing.noF exf_nil) (xe_name 4)) (xa_cons (xe_isErr (ex := [(3, true), (11, true)]) tx.z_isinstance tx.gH (hi_HeirError tx) (xe_name 4)) xa_nil))))))) xb_nil)
      (xb_one (xs_ret (xe_if (xt_cmp op_notN p_isnt (xe_name 5) xe_non) (XF.xe (xf_lst (xa_cons (xe_efld (ts := [11]) (exf_cons tx.E_NoNumber.xf tx.E_NoNumber.noF exf_nil) (xe_name 5)) (xa_cons (xe_isErr (ex := [(3, true), (11, true)]) tx.z_isinstance tx.gH (hi_HeirError tx) (xe_name 5)) xa_nil)))) xe_non))))))
/-! #### _law_case_right -/
theorem sc_law_case_right : FnScope ["_law_box_here", "_law_order_so", "_law_lot", "_law_row_so", "_law_spots_so", "_law_got", "_law_k", "_law_tag", "_law_door"] ["_law_box_here", "_law_order_so"] (defScope s_law_case_right) := ⟨rfl, rfl, rfl, by decide +kernel, rfl, by decide +kernel, by decide +kernel⟩
theorem b_law_case_right (tx : Tx K mg T) : Binds K tx.d_law_case_right ["_law_box_here", "_law_order_so"] [] := tx.F_law_case_right.binds fun _ _ _ _ _ _ us hl => match us, hl with | [_, _], _ => rfl
def m_law_case_right_t1 : Rho → R Bool := (valT (op2E eqD (callBE f_law_take (consA (nameE 0) (consA (constE (.int 2)) nilA))) (constE (.int 0))))
def m_law_case_right_e1 : Rho → R VD := (nameE 7)
def m_law_case_right_c1 : Rho → R (List D) := (compF [7] (seqI (frzE (opNF sortedF (consA (nameE 1) nilA)))) (nameG 7) m_law_case_right_t1 m_law_case_right_e1)
def m_law_case_right_t2 : Rho → R Bool := (valT (op2E inD (nameE 7) (nameE 2)))
def m_law_case_right_e2 : Rho → R VD := (nameE 7)
def m_law_case_right_c2 : Rho → R (List D) := (compF [7] (seqI (nameE 1)) (nameG 7) m_law_case_right_t2 m_law_case_right_e2)
def m_law_case_right_t3 : Rho → R Bool := (valT (op2E inD (op2E atD (nameE 1) (nameE 6)) (nameE 2)))
def m_law_case_right_e3 : Rho → R VD := (op2E addD (nameE 6) (constE (.int 1)))
def m_law_case_right_c3 : Rho → R (List D) := (compF [6] (rngI1 (consA (opNE lenD (consA (nameE 1) nilA)) nilA)) (nameG 6) m_law_case_right_t3 m_law_case_right_e3)
def m_law_case_right_e4 : Rho → R VD := (callE f_kth_best (consA (nameE 1) (consA (nameE 2) (consA (op2E addD (nameE 6) (constE (.int 1))) nilA))))
def m_law_case_right_c4 : Rho → R (List D) := (compF [6] (rngI1 (consA (opNE lenD (consA (nameE 2) nilA)) nilA)) (nameG 6) yesT m_law_case_right_e4)
def m_law_case_right_e5 : Rho → R VD := (callE f_kth_best (permA 3 [2, 1, 0] (consA (op2E addD (nameE 6) (constE (.int 1))) (consA (frzE (opNF listF (consA (nameE 2) nilA))) (consA (frzE (opNF listF (consA (nameE 1) nilA))) nilA)))))
def m_law_case_right_c5 : Rho → R (List D) := (compF [6] (rngI1 (consA (opNE lenD (consA (nameE 2) nilA)) nilA)) (nameG 6) yesT m_law_case_right_e5)
def m_law_case_right_e6 : Rho → R VD := (callE f_law_refused (consA (constE (.int 2)) (consA (nameE 1) (consA (nameE 2) (consA (nameE 6) nilA)))))
def m_law_case_right_c6 : Rho → R (List D) := (compF [6] (seqI (tupE (consA (constE (.int 0)) (consA (op1E negD (constE (.int 1))) (consA (op2E addD (opNE lenD (consA (nameE 2) nilA)) (constE (.int 1))) nilA))))) (nameG 6) yesT m_law_case_right_e6)
def m_law_case_right_e7 : Rho → R VD := (callE f_law_refused (consA (nameE 8) (consA (nameE 1) (consA (opNE tupleD (consA (frzE (opNF sortedF (consA (op2E addD (nameE 2) (tupE (consA (constE (.str "zzzzzzz")) nilA))) nilA))) nilA)) (consA (constE (.int 0)) nilA)))))
def m_law_case_right_c7 : Rho → R (List D) := (compF [8] (rngI1 (consA (constE (.int 3)) nilA)) (nameG 8) yesT m_law_case_right_e7)
def m_law_case_right_e8 : Rho → R VD := (frzE (lstF (consA (nameE 6) (consA (constE (.bl true)) nilA))))
def m_law_case_right_c8 : Rho → R (List D) := (compF [6] (seqI (tupE (consA (constE (.int 0)) (consA (op1E negD (constE (.int 1))) (consA (op2E addD (opNE lenD (consA (nameE 2) nilA)) (constE (.int 1))) nilA))))) (nameG 6) yesT m_law_case_right_e8)
def m_law_case_right : Rho → O := (seqS (asgS 2 (opNE tupleD (consA (frzE m_law_case_right_c1) nilA)))
  (seqS (asgS 3 (opNE tupleD (consA (frzE m_law_case_right_c2) nilA)))
  (seqS (asgS 4 (opNE tupleD (consA (frzE m_law_case_right_c3) nilA)))
  (seqS (asgS 5 (frzE (lstF (consA (callE f_by_list (consA (nameE 1) (consA (nameE 2) nilA))) (consA (callE f_places_on (consA (nameE 1) (consA (nameE 2) nilA))) (consA (frzE m_law_case_right_c4) nilA))))))
  (seqS (asgS 5 (op2E addD (nameE 5) (frzE (lstF (consA (callE f_by_list (permA 2 [1, 0] (consA (frzE (opNF listF (consA (nameE 2) nilA))) (consA (frzE (opNF listF (consA (nameE 1) nilA))) nilA)))) (consA (callE f_places_on (permA 2 [1, 0] (consA (frzE (opNF listF (consA (nameE 2) nilA))) (consA (frzE (opNF listF (consA (nameE 1) nilA))) nilA)))) nilA))))))
  (seqS (asgS 5 (op2E addD (nameE 5) (frzE (lstF (consA (frzE m_law_case_right_c5) nilA)))))
  (seqS (ifS (notT (valT (callE (f_law_same 8) (consA (nameE 5) (consA (frzE (lstF (consA (nameE 3) (consA (nameE 4) (consA (frzE (opNF listF (consA (nameE 3) nilA))) (consA (nameE 3) (consA (nameE 4) (consA (frzE (opNF listF (consA (nameE 3) nilA))) nilA)))))))) nilA))))) (retS (constE (.bl false))) nextS)
  (seqS (asgS 5 (frzE (lstF (consA (callE f_is_list (consA (nameE 1) nilA)) (consA (callE f_is_list (consA (nameE 3) nilA)) (consA (callE f_is_list (consA (frzE (opNF listF (consA (nameE 1) nilA))) nilA)) (consA (callE f_is_share (consA (nameE 1) (consA (nameE 2) nilA))) (consA (callE f_is_share (permA 2 [1, 0] (consA (nameE 2) (consA (frzE (opNF listF (consA (nameE 1) nilA))) nilA)))) nilA))))))))
  (seqS (asgS 5 (op2E addD (nameE 5) (frzE (lstF (consA (callE f_is_share (consA (nameE 1) (consA (frzE (opNF listF (consA (nameE 2) nilA))) nilA))) (consA (callE f_is_share (consA (nameE 2) (consA (nameE 1) nilA))) (consA (callE f_is_list (consA (op2E addD (nameE 1) (slE (nameE 1) noPart (aPart (constE (.int 1))))) nilA)) nilA)))))))
  (seqS (ifS (notT (valT (callE (f_law_same 8) (consA (nameE 5) (consA (frzE (lstF (consA (constE (.bl true)) (consA (constE (.bl true)) (consA (constE (.bl false)) (consA (constE (.bl true)) (consA (constE (.bl true)) (consA (constE (.bl false)) (consA (op2E eqD (nameE 1) (nameE 2)) (consA (op2E eqD (nameE 1) (tupE nilA)) nilA)))))))))) nilA))))) (retS (constE (.bl false))) nextS)
  (seqS (asgS 5 (frzE m_law_case_right_c6))
  (seqS (asgS 5 (op2E addD (nameE 5) (frzE m_law_case_right_c7)))
  (retS (callE (f_law_same 8) (consA (nameE 5) (consA (op2E addD (frzE m_law_case_right_c8) (op2E mulD (frzE (lstF (consA (frzE (lstF (consA (constE (.str "thing")) (consA (constE (.str "zzzzzzz")) (consA (constE (.bl true)) nilA))))) nilA))) (constE (.int 3)))) nilA))))))))))))))))
def f_law_case_right : List Int → List D → Option (D × List Int) := runB 1 8 m_law_case_right
theorem ok_law_case_right (tx : Tx K mg T) : FnOk P w K mg base (L2.CX P w) 10 tx.a_law_case_right tx.d_law_case_right ["_law_box_here", "_law_order_so"] (spB K T 1 f_law_case_right) :=
    fn_box tx.F_law_case_right sc_law_case_right (by decide) rfl rfl fun cdv A outer s H E hr hp =>
      (xb_cons (xs_set 2 sc_law_case_right.nd (xe_callTy call_tuple_of p_tuple tx.z_tuple (by decide +kernel) (xa_cons (XF.xe (xf_lc rfl sc_law_case_right.nd (xi_seq (XF.xe (xf_callB call_sortedA p_sorted tx.z_sorted (by decide +kernel) (xa_cons (xe_name 1) xa_nil)))) (blkOk_by (own := [("_law_tag", 7)]) (by kernel_rfl)) (fun _ _ _ _ _ => (xgo_name 7 sc_law_case_right.nd)) (fun _ _ _ _ _ => (xts_one (xt_cmp (op_eqA hr.units) p_eq (xe_callBx (ok_law_take tx) (hr.mono (by decide)) tx.g_law_take tx.F_law_take.kp (b_law_take tx) takes0 runB_len (xa_cons (xe_name 0) (xa_cons xe_int xa_nil))) xe_int))) (fun _ _ _ _ _ => (xe_name 7)))) xa_nil)))
      (xb_cons (xs_set 3 sc_law_case_right.nd (xe_callTy call_tuple_of p_tuple tx.z_tuple (by decide +kernel) (xa_cons (XF.xe (xf_lc rfl sc_law_case_right.nd (xi_seq (xe_name 1)) (blkOk_by (own := [("_law_tag", 7)]) (by kernel_rfl)) (fun _ _ _ _ _ => (xgo_name 7 sc_law_case_right.nd)) (fun _ _ _ _ _ => (xts_one (xt_cmp op_inA p_in (xe_name 7) (xe_name 2)))) (fun _ _ _ _ _ => (xe_name 7)))) xa_nil)))
      (xb_cons (xs_set 4 sc_law_case_right.nd (xe_callTy call_tuple_of p_tuple tx.z_tuple (by decide +kernel) (xa_cons (XF.xe (xf_lc rfl sc_law_case_right.nd (xi_range1 tx.z_range (xa_cons (xe_callB call_len p_len tx.z_len (by decide +kernel) (xa_cons (xe_name 1) xa_nil)) xa_nil)) (blkOk_by (own := [("_law_k", 6)]) (by kernel_rfl)) (fun _ _ _ _ _ => (xgo_name 6 sc_law_case_right.nd)) (fun _ _ _ _ _ => (xts_one (xt_cmp op_inA p_in (xe_ix ix_seq p_ix (xe_name 1) (xe_name 6)) (xe_name 2)))) (fun _ _ _ _ _ => (xe_op op_addA p_add (xe_name 6) xe_int)))) xa_nil)))
      (xb_cons (xs_set 5 sc_law_case_right.nd (XF.xe (xf_lst (xa_cons (xe_call (ok_by_list tx) (hr.mono (by decide)) tx.g_by_list tx.F_by_list.kp (b_by_list tx) takes0 runF_len (xa_cons (xe_name 1) (xa_cons (xe_name 2) xa_nil))) (xa_cons (xe_call (ok_places_on tx) (hr.mono (by decide)) tx.g_places_on tx.F_places_on.kp (b_places_on tx) takes0 runF_len (xa_cons (xe_name 1) (xa_cons (xe_name 2) xa_nil))) (xa_cons (XF.xe (xf_lc rfl sc_law_case_right.nd (xi_range1 tx.z_range (xa_cons (xe_callB call_len p_len tx.z_len (by decide +kernel) (xa_cons (xe_name 2) xa_nil)) xa_nil)) (blkOk_by (own := [("_law_k", 6)]) (by kernel_rfl)) (fun _ _ _ _ _ => (xgo_name 6 sc_law_case_right.nd)) (fun _ _ _ _ _ => xts_nil) (fun _ _ _ _ _ => (xe_call (ok_kth_best tx) (hr.mono (by decide)) tx.g_kth_best tx.F_kth_best.kp (b_kth_best tx) takes0 runF_len (xa_cons (xe_name 1) (xa_cons (xe_name 2) (xa_cons (xe_op op_addA p_add (xe_name 6) xe_int) xa_nil))))))) xa_nil))))))
      (xb_cons (xs_set 5 sc_law_case_right.nd (xe_op op_addA p_add (xe_name 5) (XF.xe (xf_lst (xa_cons (xe_callKp (ok_by_list tx) (hr.mono (by decide)) tx.g_by_list tx.F_by_list.kp (kp_by_list_10 tx) takes0 runF_len (xk_cons (XF.xe (xf_callTy call_list_of p_list tx.z_list (by decide +kernel) (xa_cons (xe_name 2) xa_nil))) (xk_cons (XF.xe (xf_callTy call_list_of p_list tx.z_list (by decide +kernel) (xa_cons (xe_name 1) xa_nil))) xk_nil))) (xa_cons (xe_callKp (ok_places_on tx) (hr.mono (by decide)) tx.g_places_on tx.F_places_on.kp (kp_places_on_10 tx) takes0 runF_len (xk_cons (XF.xe (xf_callTy call_list_of p_list tx.z_list (by decide +kernel) (xa_cons (xe_name 2) xa_nil))) (xk_cons (XF.xe (xf_callTy call_list_of p_list tx.z_list (by decide +kernel) (xa_cons (xe_name 1) xa_nil))) xk_nil))) xa_nil))))))
      (xb_cons (xs_set 5 sc_law_case_right.nd (xe_op op_addA p_add (xe_name 5) (XF.xe (xf_lst (xa_cons (XF.xe (xf_lc rfl sc_law_case_right.nd (xi_range1 tx.z_range (xa_cons (xe_callB call_len p_len tx.z_len (by decide +kernel) (xa_cons (xe_name 2) xa_nil)) xa_nil)) (blkOk_by (own := [("_law_k", 6)]) (by kernel_rfl)) (fun _ _ _ _ _ => (xgo_name 6 sc_law_case_right.nd)) (fun _ _ _ _ _ => xts_nil) (fun _ _ _ _ _ => (xe_callKp (ok_kth_best tx) (hr.mono (by decide)) tx.g_kth_best tx.F_kth_best.kp (kp_kth_best_210 tx) takes0 runF_len (xk_cons (xe_op op_addA p_add (xe_name 6) xe_int) (xk_cons (XF.xe (xf_callTy call_list_of p_list tx.z_list (by decide +kernel) (xa_cons (xe_name 2) xa_nil))) (xk_cons (XF.xe (xf_callTy call_list_of p_list tx.z_list (by decide +kernel) (xa_cons (xe_name 1) xa_nil))) xk_nil))))))) xa_nil)))))
      (xb_cons (xs_if (xt_not (xt_val (xe_call (ok_law_same tx 8) (hr.mono (by decide)) tx.g_law_same tx.F_law_same.kp (b_law_same tx) takes0 (f_law_same_len 8) (xa_cons (xe_name 5) (xa_cons (XF.xe (xf_lst (xa_cons (xe_name 3) (xa_cons (xe_name 4) (xa_cons (XF.xe (xf_callTy call_list_of p_list tx.z_list (by decide +kernel) (xa_cons (xe_name 3) xa_nil))) (xa_cons (xe_name 3) (xa_cons (xe_name 4) (xa_cons (XF.xe (xf_callTy call_list_of p_list tx.z_list (by decide +kernel) (xa_cons (xe_name 3) xa_nil))) xa_nil)))))))) xa_nil))))) (xb_one (xs_ret xe_bl)) xb_nil)
      (xb_cons (xs_set 5 sc_law_case_right.nd (XF.xe (xf_lst (xa_cons (xe_call (ok_is_list tx) (hr.mono (by decide)) tx.g_is_list tx.F_is_list.kp (b_is_list tx) takes0 runF_len (xa_cons (xe_name 1) xa_nil)) (xa_cons (xe_callKw (ok_is_list tx) (hr.mono (by decide)) tx.g_is_list tx.F_is_list.kp (kw_is_list tx) takes0 runF_len (xk_cons (xe_name 3) xk_nil)) (xa_cons (xe_call (ok_is_list tx) (hr.mono (by decide)) tx.g_is_list tx.F_is_list.kp (b_is_list tx) takes0 runF_len (xa_cons (XF.xe (xf_callTy call_list_of p_list tx.z_list (by decide +kernel) (xa_cons (xe_name 1) xa_nil))) xa_nil)) (xa_cons (xe_call (ok_is_share tx) (hr.mono (by decide)) tx.g_is_share tx.F_is_share.kp (b_is_share tx) takes0 runF_len (xa_cons (xe_name 1) (xa_cons (xe_name 2) xa_nil))) (xa_cons (xe_callKp (ok_is_share tx) (hr.mono (by decide)) tx.g_is_share tx.F_is_share.kp (kp_is_share_10 tx) takes0 runF_len (xk_cons (xe_name 2) (xk_cons (XF.xe (xf_callTy call_list_of p_list tx.z_list (by decide +kernel) (xa_cons (xe_name 1) xa_nil))) xk_nil))) xa_nil))))))))
      (xb_cons (xs_set 5 sc_law_case_right.nd (xe_op op_addA p_add (xe_name 5) (XF.xe (xf_lst (xa_cons (xe_call (ok_is_share tx) (hr.mono (by decide)) tx.g_is_share tx.F_is_share.kp (b_is_share tx) takes0 runF_len (xa_cons (xe_name 1) (xa_cons (XF.xe (xf_callTy call_list_of p_list tx.z_list (by decide +kernel) (xa_cons (xe_name 2) xa_nil))) xa_nil))) (xa_cons (xe_call (ok_is_share tx) (hr.mono (by decide)) tx.g_is_share tx.F_is_share.kp (b_is_share tx) takes0 runF_len (xa_cons (xe_name 2) (xa_cons (xe_name 1) xa_nil))) (xa_cons (xe_call (ok_is_list tx) (hr.mono (by decide)) tx.g_is_list tx.F_is_list.kp (b_is_list tx) takes0 runF_len (xa_cons (xe_op op_addA p_add (xe_name 1) (xe_sl (xe_name 1) xo_none (xo_some xe_int))) xa_nil)) xa_nil)))))))
      (xb_cons (xs_if (xt_not (xt_val (xe_call (ok_law_same tx 8) (hr.mono (by decide)) tx.g_law_same tx.F_law_same.kp (b_law_same tx) takes0 (f_law_same_len 8) (xa_cons (xe_name 5) (xa_cons (XF.xe (xf_lst (xa_cons xe_bl (xa_cons xe_bl (xa_cons xe_bl (xa_cons xe_bl (xa_cons xe_bl (xa_cons xe_bl (xa_cons (xe_cmp (op_eqA hr.units) p_eq (xe_name 1) (xe_name 2)) (xa_cons (xe_cmp (op_eqA hr.units) p_eq (xe_name 1) (xe_tup xa_nil)) xa_nil)))))))))) xa_nil))))) (xb_one (xs_ret xe_bl)) xb_nil)
      (xb_cons (xs_setLc 5 rfl sc_law_case_right.nd (xi_seq (xe_tup (xa_cons xe_int (xa_cons (xe_un un_neg p_neg xe_int) (xa_cons (xe_op op_addA p_add (xe_callB call_len p_len tx.z_len (by decide +kernel) (xa_cons (xe_name 2) xa_nil)) xe_int) xa_nil))))) (blkOk_by (own := [("_law_k", 6)]) (by kernel_rfl)) (fun _ _ _ _ _ => (xgo_name 6 sc_law_case_right.nd)) (fun _ _ _ _ _ => xts_nil) (fun _ _ _ _ _ => (xe_call (ok_law_refused tx) (hr.mono (by decide)) tx.g_law_refused tx.F_law_refused.kp (b_law_refused tx) takes0 runF_len (xa_cons xe_int (xa_cons (xe_name 1) (xa_cons (xe_name 2) (xa_cons (xe_name 6) xa_nil)))))) (sw_true rfl rfl rfl (by decide +kernel)))
      (xb_cons (xs_set 5 sc_law_case_right.nd (xe_op op_addA p_add (xe_name 5) (XF.xe (xf_lc rfl sc_law_case_right.nd (xi_range1 tx.z_range (xa_cons xe_int xa_nil)) (blkOk_by (own := [("_law_door", 8)]) (by kernel_rfl)) (fun _ _ _ _ _ => (xgo_name 8 sc_law_case_right.nd)) (fun _ _ _ _ _ => xts_nil) (fun _ _ _ _ _ => (xe_call (ok_law_refused tx) (hr.mono (by decide)) tx.g_law_refused tx.F_law_refused.kp (b_law_refused tx) takes0 runF_len (xa_cons (xe_name 8) (xa_cons (xe_name 1) (xa_cons (xe_callTy call_tuple_of p_tuple tx.z_tuple (by decide +kernel) (xa_cons (XF.xe (xf_callB call_sortedA p_sorted tx.z_sorted (by decide +kernel) (xa_cons (xe_op op_addA p_add (xe_name 2) (xe_tup (xa_cons xe_str xa_nil))) xa_nil))) xa_nil)) (xa_cons xe_int xa_nil))))))))))
      (xb_one (xs_ret (xe_call (ok_law_same tx 8) (hr.mono (by decide)) tx.g_law_same tx.F_law_same.kp (b_law_same tx) takes0 (f_law_same_len 8) (xa_cons (xe_name 5) (xa_cons (xe_op op_addA p_add (XF.xe (xf_lc rfl sc_law_case_right.nd (xi_seq (xe_tup (xa_cons xe_int (xa_cons (xe_un un_neg p_neg xe_int) (xa_cons (xe_op op_addA p_add (xe_callB call_len p_len tx.z_len (by decide +kernel) (xa_cons (xe_name 2) xa_nil)) xe_int) xa_nil))))) (blkOk_by (own := [("_law_k", 6)]) (by kernel_rfl)) (fun _ _ _ _ _ => (xgo_name 6 sc_law_case_right.nd)) (fun _ _ _ _ _ => xts_nil) (fun _ _ _ _ _ => (XF.xe (xf_lst (xa_cons (xe_name 6) (xa_cons xe_bl xa_nil))))))) (xe_op op_mulA p_mul (XF.xe (xf_lst (xa_cons (XF.xe (xf_lst (xa_cons xe_str (xa_cons xe_str (xa_cons xe_bl xa_nil))))) xa_nil))) xe_int)) xa_nil)))))))))))))))))
/-! #### _law_by_hand_right -/
theorem sc_law_by_hand_right : FnScope ["_law_mine", "_law_its", "_law_got", "_law_due", "_law_some", "_law_tags_here", "_law_own", "_law_k", "_law_door"] [] (defScope s_law_by_hand_right) := ⟨rfl, rfl, rfl, by decide +kernel, rfl, by decide +kernel, by decide +kernel⟩
theorem b_law_by_hand_right (tx : Tx K mg T) : Binds K tx.d_law_by_hand_right [] [] := tx.F_law_by_hand_right.binds fun _ _ _ _ _ _ us hl => match us, hl with | [], _ => rfl
theorem kw_law_by_hand_right (tx : Tx K mg T) : KwB K tx.d_law_by_hand_right [] := kwB_of tx.F_law_by_hand_right fun _ _ _ _ _ _ us hl => match us, hl with | [], _ => rfl
def m_law_by_hand_right_e1 : Rho → R VD := (callE f_is_list (consA (nameE 6) nilA))
def m_law_by_hand_right_c1 : Rho → R (List D) := (compF [6] (seqI (nameE 4)) (nameG 6) yesT m_law_by_hand_right_e1)
def m_law_by_hand_right_e2 : Rho → R VD := (callE f_is_share (consA (nameE 0) (consA (nameE 6) nilA)))
def m_law_by_hand_right_c2 : Rho → R (List D) := (compF [6] (seqI (nameE 4)) (nameG 6) yesT m_law_by_hand_right_e2)
def m_law_by_hand_right_e3 : Rho → R VD := (callE f_law_refused (consA (constE (.int 2)) (consA (nameE 0) (consA (tupE (consA (constE (.str "v")) (consA (constE (.str "y")) nilA))) (consA (nameE 7) nilA)))))
def m_law_by_hand_right_c3 : Rho → R (List D) := (compF [7] (seqI (tupE (consA (constE (.int 3)) (consA (constE (.int 0)) (consA (op1E negD (constE (.int 1))) (consA (op2E powD (constE (.int 10)) (constE (.int 30))) nilA)))))) (nameG 7) yesT m_law_by_hand_right_e3)
def m_law_by_hand_right_e4 : Rho → R VD := (frzE (lstF (consA (nameE 7) (consA (constE (.bl true)) nilA))))
def m_law_by_hand_right_c4 : Rho → R (List D) := (compF [7] (seqI (tupE (consA (constE (.int 3)) (consA (constE (.int 0)) (consA (op1E negD (constE (.int 1))) (consA (op2E powD (constE (.int 10)) (constE (.int 30))) nilA)))))) (nameG 7) yesT m_law_by_hand_right_e4)
def m_law_by_hand_right_e5 : Rho → R VD := (callE f_law_refused (consA (nameE 8) (consA (nameE 0) (consA (tupE (consA (constE (.str "q")) (consA (constE (.str "v")) (consA (constE (.str "z")) nilA)))) (consA (constE (.int 99)) nilA)))))
def m_law_by_hand_right_c5 : Rho → R (List D) := (compF [8] (rngI1 (consA (constE (.int 3)) nilA)) (nameG 8) yesT m_law_by_hand_right_e5)
def m_law_by_hand_right : Rho → O := (seqS (parS [0, 1] (consMd (tupE (consA (constE (.str "v")) (consA (constE (.str "w")) (consA (constE (.str "x")) (consA (constE (.str "y")) nilA))))) (consMd (tupE (consA (constE (.str "v")) (consA (constE (.str "x")) (consA (constE (.str "w")) (consA (constE (.str "y")) nilA))))) nilM)))
  (seqS (asgM 2 (lstF (consA (callE f_by_list (consA (nameE 1) (consA (tupE (consA (constE (.str "w")) (consA (constE (.str "x")) nilA))) nilA))) (consA (callE f_places_on (consA (nameE 0) (consA (tupE (consA (constE (.str "w")) (consA (constE (.str "x")) nilA))) nilA))) (consA (callE f_kth_best (consA (nameE 0) (consA (tupE (consA (constE (.str "v")) (consA (constE (.str "y")) nilA))) (consA (constE (.int 2)) nilA)))) (consA (callE f_by_list (consA (nameE 0) (consA (tupE nilA) nilA))) nilA))))))
  (seqS (asgM 2 (op2F catF (nameE 2) (frzE (lstF (consA (callE f_places_on (consA (nameE 1) (consA (tupE (consA (constE (.str "w")) (consA (constE (.str "x")) (consA (constE (.str "y")) nilA)))) nilA))) (consA (callE f_kth_best (consA (nameE 1) (consA (tupE (consA (constE (.str "w")) (consA (constE (.str "x")) nilA))) (consA (constE (.int 1)) nilA)))) (consA (callE f_places_on (consA (tupE nilA) (consA (tupE nilA) nilA))) (consA (callE f_by_list (consA (nameE 1) (consA (nameE 0) nilA))) nilA))))))))
  (seqS (asgM 3 (lstF (consA (tupE (consA (constE (.str "x")) (consA (constE (.str "w")) nilA))) (consA (tupE (consA (constE (.int 2)) (consA (constE (.int 3)) nilA))) (consA (constE (.str "y")) (consA (tupE nilA) (consA (tupE (consA (constE (.int 2)) (consA (constE (.int 3)) (consA (constE (.int 4)) nilA)))) (consA (constE (.str "x")) (consA (tupE nilA) (consA (nameE 1) nilA))))))))))
  (seqS (asgS 4 (frzE (lstF (consA (nameE 0) (consA (tupE (consA (constE (.str "v")) (consA (constE (.str "v")) nilA))) (consA (frzE (lstF (consA (constE (.str "v")) nilA))) (consA (tupE nilA) (consA (tupE (consA (constE (.str "ab")) (consA (constE (.str "a")) nilA))) (consA (tupE (consA (constE (.str "v")) (consA (constE (.str "V")) nilA))) (consA (tupE (consA (constE (.str "v")) (consA (constE (.int 1)) nilA))) (consA (constE (.str "vw")) (consA (constE .non) (consA (tupE (consA (constE (.str "")) nilA)) (consA (tupE (consA (constE (.str "abcdefghi")) nilA)) (consA (tupE (consA (constE (.str "abcdefgh")) nilA)) (consA (tupE (consA (tupE (consA (constE (.str "v")) nilA)) nilA)) (consA (tupE (consA (frzE (lstF (consA (constE (.str "v")) nilA))) nilA)) nilA)))))))))))))))))
  (seqS (dropS (appE 2 (consA (frzE m_law_by_hand_right_c1) nilA)))
  (seqS (dropS (appE 3 (consA (frzE (lstF (consA (constE (.bl true)) (consA (constE (.bl false)) (consA (constE (.bl false)) (consA (constE (.bl true)) (consA (constE (.bl true)) (consA (constE (.bl false)) (consA (constE (.bl false)) (consA (constE (.bl false)) (consA (constE (.bl false)) (consA (constE (.bl false)) (consA (constE (.bl false)) (consA (constE (.bl true)) (consA (constE (.bl false)) (consA (constE (.bl false)) nilA)))))))))))))))) nilA)))
  (seqS (asgS 4 (frzE (lstF (consA (tupE (consA (constE (.str "v")) (consA (constE (.str "y")) nilA))) (consA (tupE (consA (constE (.str "y")) (consA (constE (.str "v")) nilA))) (consA (tupE (consA (constE (.str "q")) nilA)) (consA (tupE nilA) (consA (nameE 0) (consA (frzE (lstF (consA (constE (.str "v")) nilA))) (consA (tupE (consA (constE (.str "v")) (consA (constE (.str "v")) nilA))) (consA (constE (.str "v")) (consA (constE .non) (consA (tupE (consA (constE (.str "v")) (consA (constE (.str "q")) nilA))) (consA (tupE (consA (constE (.int 1)) nilA)) (consA (tupE (consA (constE (.bl true)) nilA)) (consA (tupE (consA (constE (.str "v")) (consA (constE (.int 1)) nilA))) (consA (tupE (consA (frzE (lstF (consA (constE (.str "v")) nilA))) nilA)) nilA)))))))))))))))))
  (seqS (dropS (appE 2 (consA (frzE m_law_by_hand_right_c2) nilA)))
  (seqS (dropS (appE 3 (consA (frzE (lstF (consA (constE (.bl true)) (consA (constE (.bl false)) (consA (constE (.bl false)) (consA (constE (.bl true)) (consA (constE (.bl true)) (consA (constE (.bl false)) (consA (constE (.bl false)) (consA (constE (.bl false)) (consA (constE (.bl false)) (consA (constE (.bl false)) (consA (constE (.bl false)) (consA (constE (.bl false)) (consA (constE (.bl false)) (consA (constE (.bl false)) nilA)))))))))))))))) nilA)))
  (seqS (asgS 5 (tupE (consA (constE (.str "a")) (consA (constE (.str "b")) (consA (constE (.str "c")) (consA (constE (.str "d")) (consA (constE (.str "e")) (consA (constE (.str "f")) (consA (constE (.str "g")) (consA (constE (.str "h")) (consA (constE (.str "i")) (consA (constE (.str "j")) (consA (constE (.str "k")) (consA (constE (.str "l")) nilA))))))))))))))
  (seqS (asgM 2 (op2F catF (nameE 2) (frzE (lstF (consA (callE f_places_on (consA (op1E revD (nameE 5)) (consA (tupE (consA (constE (.str "a")) (consA (constE (.str "f")) (consA (constE (.str "l")) nilA)))) nilA))) (consA (callE f_by_list (consA (op1E revD (nameE 5)) (consA (nameE 5) nilA))) (consA (callE f_kth_best (consA (op1E revD (nameE 5)) (consA (nameE 5) (consA (constE (.int 12)) nilA)))) (consA (callE f_is_list (consA (nameE 5) nilA)) (consA (callE f_is_share (consA (op1E revD (nameE 5)) (consA (nameE 5) nilA))) nilA)))))))))
  (seqS (asgM 3 (op2F catF (nameE 3) (frzE (lstF (consA (tupE (consA (constE (.int 1)) (consA (constE (.int 7)) (consA (constE (.int 12)) nilA)))) (consA (op1E revD (nameE 5)) (consA (constE (.str "a")) (consA (constE (.bl true)) (consA (constE (.bl true)) nilA)))))))))
  (seqS (asgM 2 (op2F catF (nameE 2) (frzE m_law_by_hand_right_c3)))
  (seqS (asgM 3 (op2F catF (nameE 3) (frzE m_law_by_hand_right_c4)))
  (seqS (asgM 2 (op2F catF (op2E addD (nameE 2) (frzE m_law_by_hand_right_c5)) (frzE (lstF (consA (callE f_law_refused (consA (constE (.int 0)) (consA (tupE nilA) (consA (tupE (consA (constE (.str "a")) nilA)) (consA (constE (.int 1)) nilA))))) nilA)))))
  (retS (callE (f_law_same 8) (consA (nameE 2) (consA (op2E addD (op2E addD (nameE 3) (op2E mulD (frzE (lstF (consA (frzE (lstF (consA (constE (.str "thing")) (consA (constE (.str "q")) (consA (constE (.bl true)) nilA))))) nilA))) (constE (.int 3)))) (frzE (lstF (consA (frzE (lstF (consA (constE (.str "thing")) (consA (constE (.str "a")) (consA (constE (.bl true)) nilA))))) nilA)))) nilA))))))))))))))))))))
def f_law_by_hand_right : List D → Res := runF 0 9 m_law_by_hand_right
theorem ok_law_by_hand_right (tx : Tx K mg T) : FnOk P w K mg base (L2.CX P w) 10 tx.a_law_by_hand_right tx.d_law_by_hand_right [] (spP K T 0 f_law_by_hand_right) :=
    fn_pure tx.F_law_by_hand_right sc_law_by_hand_right (by decide) fun cdv A outer s H E hr tk hp =>
      (xb_cons (by first | exact (xs_par2 0 1 rfl sc_law_by_hand_right.nd (xm_d (xe_tup (xa_cons xe_str (xa_cons xe_str (xa_cons xe_str (xa_cons xe_str xa_nil))))) (xm_d (xe_tup (xa_cons xe_str (xa_cons xe_str (xa_cons xe_str (xa_cons xe_str xa_nil))))) xm_nil))) | exact (xs_parN (is := [0, 1]) rfl (by decide) rfl (by decide) (xm_d (xe_tup (xa_cons xe_str (xa_cons xe_str (xa_cons xe_str (xa_cons xe_str xa_nil))))) (xm_d (xe_tup (xa_cons xe_str (xa_cons xe_str (xa_cons xe_str (xa_cons xe_str xa_nil))))) xm_nil)) (pgs_names (pgs_cons (pg_name (i := 0) sc_law_by_hand_right.nd rfl (by first | exact Or.inl rfl | exact Or.inr rfl)) (pgs_cons (pg_name (i := 1) sc_law_by_hand_right.nd rfl (by first | exact Or.inl rfl | exact Or.inr rfl)) pgs_nil)) (gn_cons (i := 0) (gn_cons (i := 1) gn_nil)))))
      (xb_cons (xs_setM 2 sc_law_by_hand_right.nd (xf_lst (xa_cons (xe_call (ok_by_list tx) (hr.mono (by decide)) tx.g_by_list tx.F_by_list.kp (b_by_list tx) tk runF_len (xa_cons (xe_name 1) (xa_cons (xe_tup (xa_cons xe_str (xa_cons xe_str xa_nil))) xa_nil))) (xa_cons (xe_call (ok_places_on tx) (hr.mono (by decide)) tx.g_places_on tx.F_places_on.kp (b_places_on tx) tk runF_len (xa_cons (xe_name 0) (xa_cons (xe_tup (xa_cons xe_str (xa_cons xe_str xa_nil))) xa_nil))) (xa_cons (xe_call (ok_kth_best tx) (hr.mono (by decide)) tx.g_kth_best tx.F_kth_best.kp (b_kth_best tx) tk runF_len (xa_cons (xe_name 0) (xa_cons (xe_tup (xa_cons xe_str (xa_cons xe_str xa_nil))) (xa_cons xe_int xa_nil)))) (xa_cons (xe_call (ok_by_list tx) (hr.mono (by decide)) tx.g_by_list tx.F_by_list.kp (b_by_list tx) tk runF_len (xa_cons (xe_name 0) (xa_cons (xe_tup xa_nil) xa_nil))) xa_nil))))))
      (xb_cons (xs_setM 2 sc_law_by_hand_right.nd (xf_op op_cat p_catF (xe_name 2) (XF.xe (xf_lst (xa_cons (xe_call (ok_places_on tx) (hr.mono (by decide)) tx.g_places_on tx.F_places_on.kp (b_places_on tx) tk runF_len (xa_cons (xe_name 1) (xa_cons (xe_tup (xa_cons xe_str (xa_cons xe_str (xa_cons xe_str xa_nil)))) xa_nil))) (xa_cons (xe_call (ok_kth_best tx) (hr.mono (by decide)) tx.g_kth_best tx.F_kth_best.kp (b_kth_best tx) tk runF_len (xa_cons (xe_name 1) (xa_cons (xe_tup (xa_cons xe_str (xa_cons xe_str xa_nil))) (xa_cons xe_int xa_nil)))) (xa_cons (xe_call (ok_places_on tx) (hr.mono (by decide)) tx.g_places_on tx.F_places_on.kp (b_places_on tx) tk runF_len (xa_cons (xe_tup xa_nil) (xa_cons (xe_tup xa_nil) xa_nil))) (xa_cons (xe_call (ok_by_list tx) (hr.mono (by decide)) tx.g_by_list tx.F_by_list.kp (b_by_list tx) tk runF_len (xa_cons (xe_name 1) (xa_cons (xe_name 0) xa_nil))) xa_nil))))))))
      (xb_cons (xs_setM 3 sc_law_by_hand_right.nd (xf_lst (xa_cons (xe_tup (xa_cons xe_str (xa_cons xe_str xa_nil))) (xa_cons (xe_tup (xa_cons xe_int (xa_cons xe_int xa_nil))) (xa_cons xe_str (xa_cons (xe_tup xa_nil) (xa_cons (xe_tup (xa_cons xe_int (xa_cons xe_int (xa_cons xe_int xa_nil)))) (xa_cons xe_str (xa_cons (xe_tup xa_nil) (xa_cons (xe_name 1) xa_nil))))))))))
      (xb_cons (xs_set 4 sc_law_by_hand_right.nd (XF.xe (xf_lst (xa_cons (xe_name 0) (xa_cons (xe_tup (xa_cons xe_str (xa_cons xe_str xa_nil))) (xa_cons (XF.xe (xf_lst (xa_cons xe_str xa_nil))) (xa_cons (xe_tup xa_nil) (xa_cons (xe_tup (xa_cons xe_str (xa_cons xe_str xa_nil))) (xa_cons (xe_tup (xa_cons xe_str (xa_cons xe_str xa_nil))) (xa_cons (xe_tup (xa_cons xe_str (xa_cons xe_int xa_nil))) (xa_cons xe_str (xa_cons xe_non (xa_cons (xe_tup (xa_cons xe_str xa_nil)) (xa_cons (xe_tup (xa_cons xe_str xa_nil)) (xa_cons (xe_tup (xa_cons xe_str xa_nil)) (xa_cons (xe_tup (xa_cons (xe_tup (xa_cons xe_str xa_nil)) xa_nil)) (xa_cons (xe_tup (xa_cons (XF.xe (xf_lst (xa_cons xe_str xa_nil))) xa_nil)) xa_nil)))))))))))))))))
      (xb_cons (xs_expr (xe_append 2 (xa_cons (XF.xe (xf_lc rfl sc_law_by_hand_right.nd (xi_seq (xe_name 4)) (blkOk_by (own := [("_law_own", 6)]) (by kernel_rfl)) (fun _ _ _ _ _ => (xgo_name 6 sc_law_by_hand_right.nd)) (fun _ _ _ _ _ => xts_nil) (fun _ _ _ _ _ => (xe_call (ok_is_list tx) (hr.mono (by decide)) tx.g_is_list tx.F_is_list.kp (b_is_list tx) takes0 runF_len (xa_cons (xe_name 6) xa_nil))))) xa_nil)))
      (xb_cons (xs_expr (xe_append 3 (xa_cons (XF.xe (xf_lst (xa_cons xe_bl (xa_cons xe_bl (xa_cons xe_bl (xa_cons xe_bl (xa_cons xe_bl (xa_cons xe_bl (xa_cons xe_bl (xa_cons xe_bl (xa_cons xe_bl (xa_cons xe_bl (xa_cons xe_bl (xa_cons xe_bl (xa_cons xe_bl (xa_cons xe_bl xa_nil)))))))))))))))) xa_nil)))
      (xb_cons (xs_set 4 sc_law_by_hand_right.nd (XF.xe (xf_lst (xa_cons (xe_tup (xa_cons xe_str (xa_cons xe_str xa_nil))) (xa_cons (xe_tup (xa_cons xe_str (xa_cons xe_str xa_nil))) (xa_cons (xe_tup (xa_cons xe_str xa_nil)) (xa_cons (xe_tup xa_nil) (xa_cons (xe_name 0) (xa_cons (XF.xe (xf_lst (xa_cons xe_str xa_nil))) (xa_cons (xe_tup (xa_cons xe_str (xa_cons xe_str xa_nil))) (xa_cons xe_str (xa_cons xe_non (xa_cons (xe_tup (xa_cons xe_str (xa_cons xe_str xa_nil))) (xa_cons (xe_tup (xa_cons xe_int xa_nil)) (xa_cons (xe_tup (xa_cons xe_bl xa_nil)) (xa_cons (xe_tup (xa_cons xe_str (xa_cons xe_int xa_nil))) (xa_cons (xe_tup (xa_cons (XF.xe (xf_lst (xa_cons xe_str xa_nil))) xa_nil)) xa_nil)))))))))))))))))
      (xb_cons (xs_expr (xe_append 2 (xa_cons (XF.xe (xf_lc rfl sc_law_by_hand_right.nd (xi_seq (xe_name 4)) (blkOk_by (own := [("_law_own", 6)]) (by kernel_rfl)) (fun _ _ _ _ _ => (xgo_name 6 sc_law_by_hand_right.nd)) (fun _ _ _ _ _ => xts_nil) (fun _ _ _ _ _ => (xe_call (ok_is_share tx) (hr.mono (by decide)) tx.g_is_share tx.F_is_share.kp (b_is_share tx) takes0 runF_len (xa_cons (xe_name 0) (xa_cons (xe_name 6) xa_nil)))))) xa_nil)))
      (xb_cons (xs_expr (xe_append 3 (xa_cons (XF.xe (xf_lst (xa_cons xe_bl (xa_cons xe_bl (xa_cons xe_bl (xa_cons xe_bl (xa_cons xe_bl (xa_cons xe_bl (xa_cons xe_bl (xa_cons xe_bl (xa_cons xe_bl (xa_cons xe_bl (xa_cons xe_bl (xa_cons xe_bl (xa_cons xe_bl (xa_cons xe_bl xa_nil)))))))))))))))) xa_nil)))
      (xb_cons (xs_set 5 sc_law_by_hand_right.nd (xe_tup (xa_cons xe_str (xa_cons xe_str (xa_cons xe_str (xa_cons xe_str (xa_cons xe_str (xa_cons xe_str (xa_cons xe_str (xa_cons xe_str (xa_cons xe_str (xa_cons xe_str (xa_cons xe_str (xa_cons xe_str xa_nil))))))))))))))
      (xb_cons (xs_setM 2 sc_law_by_hand_right.nd (xf_op op_cat p_catF (xe_name 2) (XF.xe (xf_lst (xa_cons (xe_call (ok_places_on tx) (hr.mono (by decide)) tx.g_places_on tx.F_places_on.kp (b_places_on tx) tk runF_len (xa_cons (xe_back (xe_name 5)) (xa_cons (xe_tup (xa_cons xe_str (xa_cons xe_str (xa_cons xe_str xa_nil)))) xa_nil))) (xa_cons (xe_call (ok_by_list tx) (hr.mono (by decide)) tx.g_by_list tx.F_by_list.kp (b_by_list tx) tk runF_len (xa_cons (xe_back (xe_name 5)) (xa_cons (xe_name 5) xa_nil))) (xa_cons (xe_call (ok_kth_best tx) (hr.mono (by decide)) tx.g_kth_best tx.F_kth_best.kp (b_kth_best tx) tk runF_len (xa_cons (xe_back (xe_name 5)) (xa_cons (xe_name 5) (xa_cons xe_int xa_nil)))) (xa_cons (xe_call (ok_is_list tx) (hr.mono (by decide)) tx.g_is_list tx.F_is_list.kp (b_is_list tx) tk runF_len (xa_cons (xe_name 5) xa_nil)) (xa_cons (xe_call (ok_is_share tx) (hr.mono (by decide)) tx.g_is_share tx.F_is_share.kp (b_is_share tx) tk runF_len (xa_cons (xe_back (xe_name 5)) (xa_cons (xe_name 5) xa_nil))) xa_nil)))))))))
      (xb_cons (xs_setM 3 sc_law_by_hand_right.nd (xf_op op_cat p_catF (xe_name 3) (XF.xe (xf_lst (xa_cons (xe_tup (xa_cons xe_int (xa_cons xe_int (xa_cons xe_int xa_nil)))) (xa_cons (xe_back (xe_name 5)) (xa_cons xe_str (xa_cons xe_bl (xa_cons xe_bl xa_nil)))))))))
      (xb_cons (xs_setM 2 sc_law_by_hand_right.nd (xf_op op_cat p_catF (xe_name 2) (XF.xe (xf_lc rfl sc_law_by_hand_right.nd (xi_seq (xe_tup (xa_cons xe_int (xa_cons xe_int (xa_cons (xe_un un_neg p_neg xe_int) (xa_cons (xe_op op_pow p_pow xe_int xe_int) xa_nil)))))) (blkOk_by (own := [("_law_k", 7)]) (by kernel_rfl)) (fun _ _ _ _ _ => (xgo_name 7 sc_law_by_hand_right.nd)) (fun _ _ _ _ _ => xts_nil) (fun _ _ _ _ _ => (xe_call (ok_law_refused tx) (hr.mono (by decide)) tx.g_law_refused tx.F_law_refused.kp (b_law_refused tx) takes0 runF_len (xa_cons xe_int (xa_cons (xe_name 0) (xa_cons (xe_tup (xa_cons xe_str (xa_cons xe_str xa_nil))) (xa_cons (xe_name 7) xa_nil))))))))))
      (xb_cons (xs_setM 3 sc_law_by_hand_right.nd (xf_op op_cat p_catF (xe_name 3) (XF.xe (xf_lc rfl sc_law_by_hand_right.nd (xi_seq (xe_tup (xa_cons xe_int (xa_cons xe_int (xa_cons (xe_un un_neg p_neg xe_int) (xa_cons (xe_op op_pow p_pow xe_int xe_int) xa_nil)))))) (blkOk_by (own := [("_law_k", 7)]) (by kernel_rfl)) (fun _ _ _ _ _ => (xgo_name 7 sc_law_by_hand_right.nd)) (fun _ _ _ _ _ => xts_nil) (fun _ _ _ _ _ => (XF.xe (xf_lst (xa_cons (xe_name 7) (xa_cons xe_bl xa_nil)))))))))
      (xb_cons (xs_setM 2 sc_law_by_hand_right.nd (xf_op op_cat p_catF (xe_op op_addA p_add (xe_name 2) (XF.xe (xf_lc rfl sc_law_by_hand_right.nd (xi_range1 tx.z_range (xa_cons xe_int xa_nil)) (blkOk_by (own := [("_law_door", 8)]) (by kernel_rfl)) (fun _ _ _ _ _ => (xgo_name 8 sc_law_by_hand_right.nd)) (fun _ _ _ _ _ => xts_nil) (fun _ _ _ _ _ => (xe_call (ok_law_refused tx) (hr.mono (by decide)) tx.g_law_refused tx.F_law_refused.kp (b_law_refused tx) takes0 runF_len (xa_cons (xe_name 8) (xa_cons (xe_name 0) (xa_cons (xe_tup (xa_cons xe_str (xa_cons xe_str (xa_cons xe_str xa_nil)))) (xa_cons xe_int xa_nil))))))))) (XF.xe (xf_lst (xa_cons (xe_call (ok_law_refused tx) (hr.mono (by decide)) tx.g_law_refused tx.F_law_refused.kp (b_law_refused tx) tk runF_len (xa_cons xe_int (xa_cons (xe_tup xa_nil) (xa_cons (xe_tup (xa_cons xe_str xa_nil)) (xa_cons xe_int xa_nil))))) xa_nil)))))
      (xb_one (xs_ret (xe_call (ok_law_same tx 8) (hr.mono (by decide)) tx.g_law_same tx.F_law_same.kp (b_law_same tx) tk (f_law_same_len 8) (xa_cons (xe_name 2) (xa_cons (xe_op op_addA p_add (xe_op op_addA p_add (xe_name 3) (xe_op op_mulA p_mul (XF.xe (xf_lst (xa_cons (XF.xe (xf_lst (xa_cons xe_str (xa_cons xe_str (xa_cons xe_bl xa_nil))))) xa_nil))) xe_int)) (XF.xe (xf_lst (xa_cons (XF.xe (xf_lst (xa_cons xe_str (xa_cons xe_str (xa_cons xe_bl xa_nil))))) xa_nil)))) xa_nil)))))))))))))))))))))
/-! #### _law_right -/
theorem sc_law_right : FnScope ["_law_box_here", "_law_turn"] ["_law_box_here"] (defScope s_law_right) := ⟨rfl, rfl, rfl, by decide +kernel, rfl, by decide +kernel, by decide +kernel⟩
theorem b_law_right (tx : Tx K mg T) : Binds K tx.d_law_right ["_law_box_here"] [] := tx.F_law_right.binds fun _ _ _ _ _ _ us hl => match us, hl with | [_], _ => rfl
def m_law_right_e1 : Rho → R VD := (callBE f_law_case_right (consA (nameE 0) (consA (callBE f_law_mixed (consA (nameE 0) (consA (callBE f_law_tags (consA (nameE 0) (consA (callBE f_law_take (consA (nameE 0) (consA (constE (.int 8)) nilA))) nilA))) nilA))) nilA)))
def m_law_right_c1 : Rho → R (List D) := (compF [1] (rngI1 (consA (constE (.int 8)) nilA)) (nameG 1) yesT m_law_right_e1)
def m_law_right : Rho → O := (retS (opNE allD (consA (frzE m_law_right_c1) nilA)))
def f_law_right : List Int → List D → Option (D × List Int) := runB 0 1 m_law_right
theorem ok_law_right (tx : Tx K mg T) : FnOk P w K mg base (L2.CX P w) 11 tx.a_law_right tx.d_law_right ["_law_box_here"] (spB K T 0 f_law_right) :=
    fn_box tx.F_law_right sc_law_right (by decide) rfl rfl fun cdv A outer s H E hr hp =>
      (xb_one (xs_ret (xe_callB (cr_all rfl) p_all tx.z_all (by decide +kernel) (xa_cons (XF.xe (xf_lc rfl sc_law_right.nd (xi_range1 tx.z_range (xa_cons xe_int xa_nil)) (blkOk_by (own := [("_law_turn", 1)]) (by kernel_rfl)) (fun _ _ _ _ _ => (xgo_name 1 sc_law_right.nd)) (fun _ _ _ _ _ => xts_nil) (fun _ _ _ _ _ => (xe_callBx (ok_law_case_right tx) (hr.mono (by decide)) tx.g_law_case_right tx.F_law_case_right.kp (b_law_case_right tx) takes0 runB_len (xa_cons (xe_name 0) (xa_cons (xe_callBx (ok_law_mixed tx) (hr.mono (by decide)) tx.g_law_mixed tx.F_law_mixed.kp (b_law_mixed tx) takes0 runB_len (xa_cons (xe_name 0) (xa_cons (xe_callBx (ok_law_tags tx) (hr.mono (by decide)) tx.g_law_tags tx.F_law_tags.kp (b_law_tags tx) takes0 runB_len (xa_cons (xe_name 0) (xa_cons (xe_callBx (ok_law_take tx) (hr.mono (by decide)) tx.g_law_take tx.F_law_take.kp (b_law_take tx) takes0 runB_len (xa_cons (xe_name 0) (xa_cons xe_int xa_nil))) xa_nil))) xa_nil))) xa_nil)))))) xa_nil))))
/-! #### law -/
theorem sc_law : FnScope ["_law_script", "_law_cells_here", "_law_k"] ["_law_script"] (defScope s_law) := ⟨rfl, rfl, rfl, by decide +kernel, rfl, by decide +kernel, by decide +kernel⟩
theorem b_law (tx : Tx K mg T) : Binds K tx.d_law ["_law_script"] [] := tx.F_law.binds fun _ _ _ _ _ _ us hl => match us, hl with | [_], _ => rfl
theorem kw_law (tx : Tx K mg T) : KwB K tx.d_law ["_law_script"] := kwB_of tx.F_law fun _ _ _ _ _ _ us hl => match us, hl with | [_], _ => rfl
def m_law_e1 : Rho → R VD := (callNew f_law_right (callL f_law_box (consA (nameE 1) (consA (nameE 2) nilA))))
def m_law_c1 : Rho → R (List D) := (compF [2] (rngI1 (consA (opNE lenD (consA (nameE 1) nilA)) nilA)) (nameG 2) yesT m_law_e1)
def m_law : Rho → O := (seqS (asgS 1 (callE f_law_cells (consA (nameE 0) (consA (constE (.int 3)) nilA))))
  (retS (andE (callE f_law_by_hand_right nilA) (opNE allD (consA (frzE m_law_c1) nilA)))))
def f_law : List D → Res := runF 1 3 m_law
theorem ok_law (tx : Tx K mg T) : FnOk P w K mg base (L2.CX P w) 12 tx.a_law tx.d_law ["_law_script"] (spP K T 1 f_law) :=
    fn_pure tx.F_law sc_law (by decide) fun cdv A outer s H E hr tk hp =>
      (xb_cons (xs_set 1 sc_law.nd (xe_call (ok_law_cells tx) (hr.mono (by decide)) tx.g_law_cells tx.F_law_cells.kp (b_law_cells tx) tk runF_len (xa_cons (xe_name 0) (xa_cons xe_int xa_nil))))
      (xb_one (xs_ret (xe_and (xe_call0 (ok_law_by_hand_right tx) (hr.mono (by decide)) tx.g_law_by_hand_right tx.F_law_by_hand_right.kp (kw_law_by_hand_right tx) tk runF_len) (xe_one (xe_callB (cr_all rfl) p_all tx.z_all (by decide +kernel) (xa_cons (XF.xe (xf_lc rfl sc_law.nd (xi_range1 tx.z_range (xa_cons (xe_callB call_len p_len tx.z_len (by decide +kernel) (xa_cons (xe_name 1) xa_nil)) xa_nil)) (blkOk_by (own := [("_law_k", 2)]) (by kernel_rfl)) (fun _ _ _ _ _ => (xgo_name 2 sc_law.nd)) (fun _ _ _ _ _ => xts_nil) (fun _ _ _ _ _ => (xe_callNew (ok_law_right tx) (hr.mono (by decide)) tx.g_law_right tx.F_law_right.kp (b_law_right tx) takes0 (xf_call (ok_law_box tx) (hr.mono (by decide)) tx.g_law_box tx.F_law_box.kp (b_law_box tx) takes0 runL_len (xa_cons (xe_name 1) (xa_cons (xe_name 2) xa_nil))))))) xa_nil)))))))
end
/-! ### the end -/
def mkTx {K : PySem.W.Frag} {h : Heap} {mg : Str → Option Value} (X : K.In h) (G : h.Ns mainGlobals mg)
    {f_is_name : Addr} {od_is_name an_is_name : Option Addr} {sl_is_name : Array (Option Value)} {oc_is_name kV_is_name dc_is_name pm_is_name cd_is_name ct_is_name : Value}
    {f_is_rising : Addr} {od_is_rising an_is_rising : Option Addr} {sl_is_rising : Array (Option Value)} {oc_is_rising kV_is_rising dc_is_rising pm_is_rising cd_is_rising ct_is_rising : Value}
    {f_is_list : Addr} {od_is_list an_is_list : Option Addr} {sl_is_list : Array (Option Value)} {oc_is_list kV_is_list dc_is_list pm_is_list cd_is_list ct_is_list : Value}
    {f_is_share : Addr} {od_is_share an_is_share : Option Addr} {sl_is_share : Array (Option Value)} {oc_is_share kV_is_share dc_is_share pm_is_share cd_is_share ct_is_share : Value}
    {f_check_on : Addr} {od_check_on an_check_on : Option Addr} {sl_check_on : Array (Option Value)} {oc_check_on kV_check_on dc_check_on pm_check_on cd_check_on ct_check_on : Value}
    {f_by_list : Addr} {od_by_list an_by_list : Option Addr} {sl_by_list : Array (Option Value)} {oc_by_list kV_by_list dc_by_list pm_by_list cd_by_list ct_by_list : Value}
    {f_places_on : Addr} {od_places_on an_places_on : Option Addr} {sl_places_on : Array (Option Value)} {oc_places_on kV_places_on dc_places_on pm_places_on cd_places_on ct_places_on : Value}
    {f_kth_best : Addr} {od_kth_best an_kth_best : Option Addr} {sl_kth_best : Array (Option Value)} {oc_kth_best kV_kth_best dc_kth_best pm_kth_best cd_kth_best ct_kth_best : Value}
    {f_law_box : Addr} {od_law_box an_law_box : Option Addr} {sl_law_box : Array (Option Value)} {oc_law_box kV_law_box dc_law_box pm_law_box cd_law_box ct_law_box : Value}
    {f_law_take : Addr} {od_law_take an_law_take : Option Addr} {sl_law_take : Array (Option Value)} {oc_law_take kV_law_take dc_law_take pm_law_take cd_law_take ct_law_take : Value}
    {f_law_cells : Addr} {od_law_cells an_law_cells : Option Addr} {sl_law_cells : Array (Option Value)} {oc_law_cells kV_law_cells dc_law_cells pm_law_cells cd_law_cells ct_law_cells : Value}
    {f_law_pick : Addr} {od_law_pick an_law_pick : Option Addr} {sl_law_pick : Array (Option Value)} {oc_law_pick kV_law_pick dc_law_pick pm_law_pick cd_law_pick ct_law_pick : Value}
    {f_law_same : Addr} {od_law_same an_law_same : Option Addr} {sl_law_same : Array (Option Value)} {oc_law_same kV_law_same dc_law_same pm_law_same cd_law_same ct_law_same : Value}
    {f_law_tags : Addr} {od_law_tags an_law_tags : Option Addr} {sl_law_tags : Array (Option Value)} {oc_law_tags kV_law_tags dc_law_tags pm_law_tags cd_law_tags ct_law_tags : Value}
    {f_law_mixed : Addr} {od_law_mixed an_law_mixed : Option Addr} {sl_law_mixed : Array (Option Value)} {oc_law_mixed kV_law_mixed dc_law_mixed pm_law_mixed cd_law_mixed ct_law_mixed : Value}
    {f_law_refused : Addr} {od_law_refused an_law_refused : Option Addr} {sl_law_refused : Array (Option Value)} {oc_law_refused kV_law_refused dc_law_refused pm_law_refused cd_law_refused ct_law_refused : Value}
    {f_law_case_right : Addr} {od_law_case_right an_law_case_right : Option Addr} {sl_law_case_right : Array (Option Value)} {oc_law_case_right kV_law_case_right dc_law_case_right pm_law_case_right cd_law_case_right ct_law_case_right : Value}
    {f_law_by_hand_right : Addr} {od_law_by_hand_right an_law_by_hand_right : Option Addr} {sl_law_by_hand_right : Array (Option Value)} {oc_law_by_hand_right kV_law_by_hand_right dc_law_by_hand_right pm_law_by_hand_right cd_law_by_hand_right ct_law_by_hand_right : Value}
    {f_law_right : Addr} {od_law_right an_law_right : Option Addr} {sl_law_right : Array (Option Value)} {oc_law_right kV_law_right dc_law_right pm_law_right cd_law_right ct_law_right : Value}
    {f_law : Addr} {od_law an_law : Option Addr} {sl_law : Array (Option Value)} {oc_law kV_law dc_law pm_law cd_law ct_law : Value}
    {C_NoThing fI_NoThing : Addr} {nm_NoThing q_NoThing : Str} {N_NoThing : Addr} {bs_NoThing : List Value} {B_NoThing : Addr} {sn_NoThing : List Str} {sub_NoThing : List Value} {ab_NoThing : Bool} {col_NoThing : Option Bool} {dd_NoThing : Option Addr} {k0_NoThing k1_NoThing k2_NoThing k3_NoThing k5_NoThing : Option Value}
    {odI_NoThing anI_NoThing : Option Addr} {slI_NoThing : Array (Option Value)} {ocI_NoThing kVI_NoThing dcI_NoThing pmI_NoThing cdI_NoThing ctI_NoThing : Value}
    {C_NoNumber fI_NoNumber : Addr} {nm_NoNumber q_NoNumber : Str} {N_NoNumber : Addr} {bs_NoNumber : List Value} {B_NoNumber : Addr} {sn_NoNumber : List Str} {sub_NoNumber : List Value} {ab_NoNumber : Bool} {col_NoNumber : Option Bool} {dd_NoNumber : Option Addr} {k0_NoNumber k1_NoNumber k2_NoNumber k3_NoNumber k5_NoNumber : Option Value}
    {odI_NoNumber anI_NoNumber : Option Addr} {slI_NoNumber : Array (Option Value)} {ocI_NoNumber kVI_NoNumber dcI_NoNumber pmI_NoNumber cdI_NoNumber ctI_NoNumber : Value}
    {C_H : Addr}
    {t_MOST_LETTERS : Tok}
    {t_LETTERS : Tok}
    (a_is_name : PySem.W.nsIn K mainGlobals "is_name" = some (some (.ref f_is_name)))
    (l_is_name : K.lookup f_is_name = some ⟨oc_is_name, od_is_name, .func (PySem.W.fnOf "is_name" "is_name" (defArgs s_is_name) (defBody s_is_name) (defScope s_is_name) .none kV_is_name dc_is_name pm_is_name an_is_name cd_is_name ct_is_name), sl_is_name⟩)
    (c_is_name : PySem.W.codeIn K cd_is_name "is_name" = true)
    (k_is_name : PySem.W.keepIn K (.ref f_is_name) = true)
    (a_is_rising : PySem.W.nsIn K mainGlobals "is_rising" = some (some (.ref f_is_rising)))
    (l_is_rising : K.lookup f_is_rising = some ⟨oc_is_rising, od_is_rising, .func (PySem.W.fnOf "is_rising" "is_rising" (defArgs s_is_rising) (defBody s_is_rising) (defScope s_is_rising) .none kV_is_rising dc_is_rising pm_is_rising an_is_rising cd_is_rising ct_is_rising), sl_is_rising⟩)
    (c_is_rising : PySem.W.codeIn K cd_is_rising "is_rising" = true)
    (k_is_rising : PySem.W.keepIn K (.ref f_is_rising) = true)
    (a_is_list : PySem.W.nsIn K mainGlobals "is_list" = some (some (.ref f_is_list)))
    (l_is_list : K.lookup f_is_list = some ⟨oc_is_list, od_is_list, .func (PySem.W.fnOf "is_list" "is_list" (defArgs s_is_list) (defBody s_is_list) (defScope s_is_list) .none kV_is_list dc_is_list pm_is_list an_is_list cd_is_list ct_is_list), sl_is_list⟩)
    (c_is_list : PySem.W.codeIn K cd_is_list "is_list" = true)
    (k_is_list : PySem.W.keepIn K (.ref f_is_list) = true)
    (a_is_share : PySem.W.nsIn K mainGlobals "is_share" = some (some (.ref f_is_share)))
    (l_is_share : K.lookup f_is_share = some ⟨oc_is_share, od_is_share, .func (PySem.W.fnOf "is_share" "is_share" (defArgs s_is_share) (defBody s_is_share) (defScope s_is_share) .none kV_is_share dc_is_share pm_is_share an_is_share cd_is_share ct_is_share), sl_is_share⟩)
    (c_is_share : PySem.W.codeIn K cd_is_share "is_share" = true)
    (k_is_share : PySem.W.keepIn K (.ref f_is_share) = true)
    (a_check_on : PySem.W.nsIn K mainGlobals "check_on" = some (some (.ref f_check_on)))
    (l_check_on : K.lookup f_check_on = some ⟨oc_check_on, od_check_on, .func (PySem.W.fnOf "check_on" "check_on" (defArgs s_check_on) (defBody s_check_on) (defScope s_check_on) .none kV_check_on dc_check_on pm_check_on an_check_on cd_check_on ct_check_on), sl_check_on⟩)
    (c_check_on : PySem.W.codeIn K cd_check_on "check_on" = true)
    (k_check_on : PySem.W.keepIn K (.ref f_check_on) = true)
    (a_by_list : PySem.W.nsIn K mainGlobals "by_list" = some (some (.ref f_by_list)))
    (l_by_list : K.lookup f_by_list = some ⟨oc_by_list, od_by_list, .func (PySem.W.fnOf "by_list" "by_list" (defArgs s_by_list) (defBody s_by_list) (defScope s_by_list) .none kV_by_list dc_by_list pm_by_list an_by_list cd_by_list ct_by_list), sl_by_list⟩)
    (c_by_list : PySem.W.codeIn K cd_by_list "by_list" = true)
    (k_by_list : PySem.W.keepIn K (.ref f_by_list) = true)
    (a_places_on : PySem.W.nsIn K mainGlobals "places_on" = some (some (.ref f_places_on)))
    (l_places_on : K.lookup f_places_on = some ⟨oc_places_on, od_places_on, .func (PySem.W.fnOf "places_on" "places_on" (defArgs s_places_on) (defBody s_places_on) (defScope s_places_on) .none kV_places_on dc_places_on pm_places_on an_places_on cd_places_on ct_places_on), sl_places_on⟩)
    (c_places_on : PySem.W.codeIn K cd_places_on "places_on" = true)
    (k_places_on : PySem.W.keepIn K (.ref f_places_on) = true)
    (a_kth_best : PySem.W.nsIn K mainGlobals "kth_best" = some (some (.ref f_kth_best)))
    (l_kth_best : K.lookup f_kth_best = some ⟨oc_kth_best, od_kth_best, .func (PySem.W.fnOf "kth_best" "kth_best" (defArgs s_kth_best) (defBody s_kth_best) (defScope s_kth_best) .none kV_kth_best dc_kth_best pm_kth_best an_kth_best cd_kth_best ct_kth_best), sl_kth_best⟩)
    (c_kth_best : PySem.W.codeIn K cd_kth_best "kth_best" = true)
    (k_kth_best : PySem.W.keepIn K (.ref f_kth_best) = true)
    (a_law_box : PySem.W.nsIn K mainGlobals "_law_box" = some (some (.ref f_law_box)))
    (l_law_box : K.lookup f_law_box = some ⟨oc_law_box, od_law_box, .func (PySem.W.fnOf "_law_box" "_law_box" (defArgs s_law_box) (defBody s_law_box) (defScope s_law_box) .none kV_law_box dc_law_box pm_law_box an_law_box cd_law_box ct_law_box), sl_law_box⟩)
    (c_law_box : PySem.W.codeIn K cd_law_box "_law_box" = true)
    (k_law_box : PySem.W.keepIn K (.ref f_law_box) = true)
    (a_law_take : PySem.W.nsIn K mainGlobals "_law_take" = some (some (.ref f_law_take)))
    (l_law_take : K.lookup f_law_take = some ⟨oc_law_take, od_law_take, .func (PySem.W.fnOf "_law_take" "_law_take" (defArgs s_law_take) (defBody s_law_take) (defScope s_law_take) .none kV_law_take dc_law_take pm_law_take an_law_take cd_law_take ct_law_take), sl_law_take⟩)
    (c_law_take : PySem.W.codeIn K cd_law_take "_law_take" = true)
    (k_law_take : PySem.W.keepIn K (.ref f_law_take) = true)
    (a_law_cells : PySem.W.nsIn K mainGlobals "_law_cells" = some (some (.ref f_law_cells)))
    (l_law_cells : K.lookup f_law_cells = some ⟨oc_law_cells, od_law_cells, .func (PySem.W.fnOf "_law_cells" "_law_cells" (defArgs s_law_cells) (defBody s_law_cells) (defScope s_law_cells) .none kV_law_cells dc_law_cells pm_law_cells an_law_cells cd_law_cells ct_law_cells), sl_law_cells⟩)
    (c_law_cells : PySem.W.codeIn K cd_law_cells "_law_cells" = true)
    (k_law_cells : PySem.W.keepIn K (.ref f_law_cells) = true)
    (a_law_pick : PySem.W.nsIn K mainGlobals "_law_pick" = some (some (.ref f_law_pick)))
    (l_law_pick : K.lookup f_law_pick = some ⟨oc_law_pick, od_law_pick, .func (PySem.W.fnOf "_law_pick" "_law_pick" (defArgs s_law_pick) (defBody s_law_pick) (defScope s_law_pick) .none kV_law_pick dc_law_pick pm_law_pick an_law_pick cd_law_pick ct_law_pick), sl_law_pick⟩)
    (c_law_pick : PySem.W.codeIn K cd_law_pick "_law_pick" = true)
    (k_law_pick : PySem.W.keepIn K (.ref f_law_pick) = true)
    (a_law_same : PySem.W.nsIn K mainGlobals "_law_same" = some (some (.ref f_law_same)))
    (l_law_same : K.lookup f_law_same = some ⟨oc_law_same, od_law_same, .func (PySem.W.fnOf "_law_same" "_law_same" (defArgs s_law_same) (defBody s_law_same) (defScope s_law_same) .none kV_law_same dc_law_same pm_law_same an_law_same cd_law_same ct_law_same), sl_law_same⟩)
    (c_law_same : PySem.W.codeIn K cd_law_same "_law_same" = true)
    (k_law_same : PySem.W.keepIn K (.ref f_law_same) = true)
    (a_law_tags : PySem.W.nsIn K mainGlobals "_law_tags" = some (some (.ref f_law_tags)))
    (l_law_tags : K.lookup f_law_tags = some ⟨oc_law_tags, od_law_tags, .func (PySem.W.fnOf "_law_tags" "_law_tags" (defArgs s_law_tags) (defBody s_law_tags) (defScope s_law_tags) .none kV_law_tags dc_law_tags pm_law_tags an_law_tags cd_law_tags ct_law_tags), sl_law_tags⟩)
    (c_law_tags : PySem.W.codeIn K cd_law_tags "_law_tags" = true)
    (k_law_tags : PySem.W.keepIn K (.ref f_law_tags) = true)
    (a_law_mixed : PySem.W.nsIn K mainGlobals "_law_mixed" = some (some (.ref f_law_mixed)))
    (l_law_mixed : K.lookup f_law_mixed = some ⟨oc_law_mixed, od_law_mixed, .func (PySem.W.fnOf "_law_mixed" "_law_mixed" (defArgs s_law_mixed) (defBody s_law_mixed) (defScope s_law_mixed) .none kV_law_mixed dc_law_mixed pm_law_mixed an_law_mixed cd_law_mixed ct_law_mixed), sl_law_mixed⟩)
    (c_law_mixed : PySem.W.codeIn K cd_law_mixed "_law_mixed" = true)
    (k_law_mixed : PySem.W.keepIn K (.ref f_law_mixed) = true)
    (a_law_refused : PySem.W.nsIn K mainGlobals "_law_refused" = some (some (.ref f_law_refused)))
    (l_law_refused : K.lookup f_law_refused = some ⟨oc_law_refused, od_law_refused, .func (PySem.W.fnOf "_law_refused" "_law_refused" (defArgs s_law_refused) (defBody s_law_refused) (defScope s_law_refused) .none kV_law_refused dc_law_refused pm_law_refused an_law_refused cd_law_refused ct_law_refused), sl_law_refused⟩)
    (c_law_refused : PySem.W.codeIn K cd_law_refused "_law_refused" = true)
    (k_law_refused : PySem.W.keepIn K (.ref f_law_refused) = true)
    (a_law_case_right : PySem.W.nsIn K mainGlobals "_law_case_right" = some (some (.ref f_law_case_right)))
    (l_law_case_right : K.lookup f_law_case_right = some ⟨oc_law_case_right, od_law_case_right, .func (PySem.W.fnOf "_law_case_right" "_law_case_right" (defArgs s_law_case_right) (defBody s_law_case_right) (defScope s_law_case_right) .none kV_law_case_right dc_law_case_right pm_law_case_right an_law_case_right cd_law_case_right ct_law_case_right), sl_law_case_right⟩)
    (c_law_case_right : PySem.W.codeIn K cd_law_case_right "_law_case_right" = true)
    (k_law_case_right : PySem.W.keepIn K (.ref f_law_case_right) = true)
    (a_law_by_hand_right : PySem.W.nsIn K mainGlobals "_law_by_hand_right" = some (some (.ref f_law_by_hand_right)))
    (l_law_by_hand_right : K.lookup f_law_by_hand_right = some ⟨oc_law_by_hand_right, od_law_by_hand_right, .func (PySem.W.fnOf "_law_by_hand_right" "_law_by_hand_right" (defArgs s_law_by_hand_right) (defBody s_law_by_hand_right) (defScope s_law_by_hand_right) .none kV_law_by_hand_right dc_law_by_hand_right pm_law_by_hand_right an_law_by_hand_right cd_law_by_hand_right ct_law_by_hand_right), sl_law_by_hand_right⟩)
    (c_law_by_hand_right : PySem.W.codeIn K cd_law_by_hand_right "_law_by_hand_right" = true)
    (k_law_by_hand_right : PySem.W.keepIn K (.ref f_law_by_hand_right) = true)
    (a_law_right : PySem.W.nsIn K mainGlobals "_law_right" = some (some (.ref f_law_right)))
    (l_law_right : K.lookup f_law_right = some ⟨oc_law_right, od_law_right, .func (PySem.W.fnOf "_law_right" "_law_right" (defArgs s_law_right) (defBody s_law_right) (defScope s_law_right) .none kV_law_right dc_law_right pm_law_right an_law_right cd_law_right ct_law_right), sl_law_right⟩)
    (c_law_right : PySem.W.codeIn K cd_law_right "_law_right" = true)
    (k_law_right : PySem.W.keepIn K (.ref f_law_right) = true)
    (a_law : PySem.W.nsIn K mainGlobals "law" = some (some (.ref f_law)))
    (l_law : K.lookup f_law = some ⟨oc_law, od_law, .func (PySem.W.fnOf "law" "law" (defArgs s_law) (defBody s_law) (defScope s_law) .none kV_law dc_law pm_law an_law cd_law ct_law), sl_law⟩)
    (c_law : PySem.W.codeIn K cd_law "law" = true)
    (k_law : PySem.W.keepIn K (.ref f_law) = true)
    (eg_NoThing : PySem.W.nsIn K mainGlobals "NoThing" = some (some (.ref C_NoThing)))
    (el_NoThing : K.lookup C_NoThing = some (excClassObj nm_NoThing q_NoThing C_NoThing N_NoThing bs_NoThing [.ref B_NoThing, .type "ValueError", .type "Exception", .type "BaseException", .type "object"] true sn_NoThing sub_NoThing ab_NoThing col_NoThing dd_NoThing k0_NoThing k1_NoThing k2_NoThing k3_NoThing k5_NoThing "ValueError.__new__"))
    (esa_NoThing : PySem.W.findIn K (.ref C_NoThing) "__setattr__" = some (some (.builtin "object.__setattr__")))
    (eex_NoThing : PySem.W.subIn K (.ref C_NoThing) (.type "BaseException") = some true)
    (ety_NoThing : PySem.W.typeIn K (.ref C_NoThing) = some (.type "type"))
    (ek_NoThing : PySem.W.keepIn K (.ref C_NoThing) = true)
    (ei_NoThing : PySem.W.findIn K (.ref C_NoThing) "__init__" = some (some (.ref fI_NoThing)))
    (eti_NoThing : PySem.W.typeIn K (.ref fI_NoThing) = some (.type "function"))
    (eno_NoThing : PySem.W.findIn K (.ref C_NoThing) "name" = some none)
    (ega_NoThing : PySem.W.findIn K (.ref C_NoThing) "__getattribute__" = some (some (.builtin "BaseException.__getattribute__")))
    (egg_NoThing : PySem.W.findIn K (.ref C_NoThing) "__getattr__" = some none)
    (ehd_NoThing : PySem.W.hasDictIn K C_NoThing = true)
    (eli_NoThing : K.lookup fI_NoThing = some ⟨ocI_NoThing, odI_NoThing, .func (PySem.W.fnOf "__init__" "NoThing.__init__" (defArgs si_NoThing) (defBody si_NoThing) (defScope si_NoThing) .none kVI_NoThing dcI_NoThing pmI_NoThing anI_NoThing cdI_NoThing ctI_NoThing), slI_NoThing⟩)
    (eci_NoThing : PySem.W.codeIn K cdI_NoThing "NoThing.__init__" = true)
    (eki_NoThing : PySem.W.keepIn K (.ref fI_NoThing) = true)
    (eg_NoNumber : PySem.W.nsIn K mainGlobals "NoNumber" = some (some (.ref C_NoNumber)))
    (el_NoNumber : K.lookup C_NoNumber = some (excClassObj nm_NoNumber q_NoNumber C_NoNumber N_NoNumber bs_NoNumber [.ref B_NoNumber, .type "ValueError", .type "Exception", .type "BaseException", .type "object"] true sn_NoNumber sub_NoNumber ab_NoNumber col_NoNumber dd_NoNumber k0_NoNumber k1_NoNumber k2_NoNumber k3_NoNumber k5_NoNumber "ValueError.__new__"))
    (esa_NoNumber : PySem.W.findIn K (.ref C_NoNumber) "__setattr__" = some (some (.builtin "object.__setattr__")))
    (eex_NoNumber : PySem.W.subIn K (.ref C_NoNumber) (.type "BaseException") = some true)
    (ety_NoNumber : PySem.W.typeIn K (.ref C_NoNumber) = some (.type "type"))
    (ek_NoNumber : PySem.W.keepIn K (.ref C_NoNumber) = true)
    (ei_NoNumber : PySem.W.findIn K (.ref C_NoNumber) "__init__" = some (some (.ref fI_NoNumber)))
    (eti_NoNumber : PySem.W.typeIn K (.ref fI_NoNumber) = some (.type "function"))
    (eno_NoNumber : PySem.W.findIn K (.ref C_NoNumber) "number" = some none)
    (ega_NoNumber : PySem.W.findIn K (.ref C_NoNumber) "__getattribute__" = some (some (.builtin "BaseException.__getattribute__")))
    (egg_NoNumber : PySem.W.findIn K (.ref C_NoNumber) "__getattr__" = some none)
    (ehd_NoNumber : PySem.W.hasDictIn K C_NoNumber = true)
    (eli_NoNumber : K.lookup fI_NoNumber = some ⟨ocI_NoNumber, odI_NoNumber, .func (PySem.W.fnOf "__init__" "NoNumber.__init__" (defArgs si_NoNumber) (defBody si_NoNumber) (defScope si_NoNumber) .none kVI_NoNumber dcI_NoNumber pmI_NoNumber anI_NoNumber cdI_NoNumber ctI_NoNumber), slI_NoNumber⟩)
    (eci_NoNumber : PySem.W.codeIn K cdI_NoNumber "NoNumber.__init__" = true)
    (eki_NoNumber : PySem.W.keepIn K (.ref fI_NoNumber) = true)
    (ka_NoThing : PySem.W.findIn K (.ref C_NoThing) "__class__" = some (some (.builtin "object.__class__")))
    (km_NoThing : PySem.W.mroIn K C_NoThing (.type "object") = some true)
    (ka_NoNumber : PySem.W.findIn K (.ref C_NoNumber) "__class__" = some (some (.builtin "object.__class__")))
    (km_NoNumber : PySem.W.mroIn K C_NoNumber (.type "object") = some true)
    (kn : PySem.W.specialIn K (.builtin "object.__class__") "__get__" = some (some (.builtin "getset_descriptor.__get__")))
    (kt : PySem.W.takesIn K (.builtin "object.__class__") = some true)
    (gH : PySem.W.nsIn K mainGlobals "HeirError" = some (some (.ref C_H)))
    (hHd : PySem.W.hasDictIn K C_H = true)
    (hHt : PySem.W.typeIn K (.ref C_H) = some (.type "type"))
    (hHe : PySem.W.subIn K (.ref C_H) (.type "BaseException") = some true)
    (su_H_H : PySem.W.subIn K (.ref C_H) (.ref C_H) = some true)
    (su_NoThing_H : PySem.W.subIn K (.ref C_NoThing) (.ref C_H) = some true)
    (su_NoNumber_H : PySem.W.subIn K (.ref C_NoNumber) (.ref C_H) = some true)
    (su_NoThing_NoNumber : PySem.W.subIn K (.ref C_NoThing) (.ref C_NoNumber) = some false)
    (su_NoNumber_NoNumber : PySem.W.subIn K (.ref C_NoNumber) (.ref C_NoNumber) = some true)
    (su_NoThing_NoThing : PySem.W.subIn K (.ref C_NoThing) (.ref C_NoThing) = some true)
    (su_NoNumber_NoThing : PySem.W.subIn K (.ref C_NoNumber) (.ref C_NoThing) = some false)
    (z_abs : PySem.W.nsIn K mainGlobals "abs" = some none)
    (z_all : PySem.W.nsIn K mainGlobals "all" = some none)
    (z_bool : PySem.W.nsIn K mainGlobals "bool" = some none)
    (z_enumerate : PySem.W.nsIn K mainGlobals "enumerate" = some none)
    (z_int : PySem.W.nsIn K mainGlobals "int" = some none)
    (z_isinstance : PySem.W.nsIn K mainGlobals "isinstance" = some none)
    (z_len : PySem.W.nsIn K mainGlobals "len" = some none)
    (z_list : PySem.W.nsIn K mainGlobals "list" = some none)
    (z_min : PySem.W.nsIn K mainGlobals "min" = some none)
    (z_range : PySem.W.nsIn K mainGlobals "range" = some none)
    (z_set : PySem.W.nsIn K mainGlobals "set" = some none)
    (z_sorted : PySem.W.nsIn K mainGlobals "sorted" = some none)
    (z_str : PySem.W.nsIn K mainGlobals "str" = some none)
    (z_tuple : PySem.W.nsIn K mainGlobals "tuple" = some none)
    (z_zip : PySem.W.nsIn K mainGlobals "zip" = some none)
    (q_MOST_LETTERS : PySem.W.nsIn K mainGlobals "MOST_LETTERS" = some (some (.int (8) t_MOST_LETTERS)))
    (q_LETTERS : PySem.W.nsIn K mainGlobals "LETTERS" = some (some (.str "abcdefghijklmnopqrstuvwxyz" t_LETTERS))) : Tx K mg (tbT [(3, C_NoThing), (11, C_NoNumber)]) :=
  { a_is_name := f_is_name, d_is_name := _, F_is_name := fun_mk l_is_name c_is_name k_is_name, g_is_name := PySem.W.mg_of X G a_is_name,
    a_is_rising := f_is_rising, d_is_rising := _, F_is_rising := fun_mk l_is_rising c_is_rising k_is_rising, g_is_rising := PySem.W.mg_of X G a_is_rising,
    a_is_list := f_is_list, d_is_list := _, F_is_list := fun_mk l_is_list c_is_list k_is_list, g_is_list := PySem.W.mg_of X G a_is_list,
    a_is_share := f_is_share, d_is_share := _, F_is_share := fun_mk l_is_share c_is_share k_is_share, g_is_share := PySem.W.mg_of X G a_is_share,
    a_check_on := f_check_on, d_check_on := _, F_check_on := fun_mk l_check_on c_check_on k_check_on, g_check_on := PySem.W.mg_of X G a_check_on,
    a_by_list := f_by_list, d_by_list := _, F_by_list := fun_mk l_by_list c_by_list k_by_list, g_by_list := PySem.W.mg_of X G a_by_list,
    a_places_on := f_places_on, d_places_on := _, F_places_on := fun_mk l_places_on c_places_on k_places_on, g_places_on := PySem.W.mg_of X G a_places_on,
    a_kth_best := f_kth_best, d_kth_best := _, F_kth_best := fun_mk l_kth_best c_kth_best k_kth_best, g_kth_best := PySem.W.mg_of X G a_kth_best,
    a_law_box := f_law_box, d_law_box := _, F_law_box := fun_mk l_law_box c_law_box k_law_box, g_law_box := PySem.W.mg_of X G a_law_box,
    a_law_take := f_law_take, d_law_take := _, F_law_take := fun_mk l_law_take c_law_take k_law_take, g_law_take := PySem.W.mg_of X G a_law_take,
    a_law_cells := f_law_cells, d_law_cells := _, F_law_cells := fun_mk l_law_cells c_law_cells k_law_cells, g_law_cells := PySem.W.mg_of X G a_law_cells,
    a_law_pick := f_law_pick, d_law_pick := _, F_law_pick := fun_mk l_law_pick c_law_pick k_law_pick, g_law_pick := PySem.W.mg_of X G a_law_pick,
    a_law_same := f_law_same, d_law_same := _, F_law_same := fun_mk l_law_same c_law_same k_law_same, g_law_same := PySem.W.mg_of X G a_law_same,
    a_law_tags := f_law_tags, d_law_tags := _, F_law_tags := fun_mk l_law_tags c_law_tags k_law_tags, g_law_tags := PySem.W.mg_of X G a_law_tags,
    a_law_mixed := f_law_mixed, d_law_mixed := _, F_law_mixed := fun_mk l_law_mixed c_law_mixed k_law_mixed, g_law_mixed := PySem.W.mg_of X G a_law_mixed,
    a_law_refused := f_law_refused, d_law_refused := _, F_law_refused := fun_mk l_law_refused c_law_refused k_law_refused, g_law_refused := PySem.W.mg_of X G a_law_refused,
    a_law_case_right := f_law_case_right, d_law_case_right := _, F_law_case_right := fun_mk l_law_case_right c_law_case_right k_law_case_right, g_law_case_right := PySem.W.mg_of X G a_law_case_right,
    a_law_by_hand_right := f_law_by_hand_right, d_law_by_hand_right := _, F_law_by_hand_right := fun_mk l_law_by_hand_right c_law_by_hand_right k_law_by_hand_right, g_law_by_hand_right := PySem.W.mg_of X G a_law_by_hand_right,
    a_law_right := f_law_right, d_law_right := _, F_law_right := fun_mk l_law_right c_law_right k_law_right, g_law_right := PySem.W.mg_of X G a_law_right,
    a_law := f_law, d_law := _, F_law := fun_mk l_law c_law k_law, g_law := PySem.W.mg_of X G a_law,
    fI_NoThing := fI_NoThing, fd_NoThing := _, E_NoThing := ⟨PySem.W.mg_of X G eg_NoThing, ⟨⟨_, _, _, _, _, _, _, _, _, _, _, _, _, _, _, el_NoThing, rfl⟩, esa_NoThing, eex_NoThing, ety_NoThing, ek_NoThing⟩, ei_NoThing, eti_NoThing, eno_NoThing, ega_NoThing, egg_NoThing, ehd_NoThing⟩, FI_NoThing := fun_mk eli_NoThing eci_NoThing eki_NoThing,
    fI_NoNumber := fI_NoNumber, fd_NoNumber := _, E_NoNumber := ⟨PySem.W.mg_of X G eg_NoNumber, ⟨⟨_, _, _, _, _, _, _, _, _, _, _, _, _, _, _, el_NoNumber, rfl⟩, esa_NoNumber, eex_NoNumber, ety_NoNumber, ek_NoNumber⟩, ei_NoNumber, eti_NoNumber, eno_NoNumber, ega_NoNumber, egg_NoNumber, ehd_NoNumber⟩, FI_NoNumber := fun_mk eli_NoNumber eci_NoNumber eki_NoNumber,
    ec_NoThing := ⟨ega_NoThing, egg_NoThing, eex_NoThing, ehd_NoThing, ka_NoThing, kn, kt, km_NoThing⟩,
    ec_NoNumber := ⟨ega_NoNumber, egg_NoNumber, eex_NoNumber, ehd_NoNumber, ka_NoNumber, kn, kt, km_NoNumber⟩,
    C_H := C_H, gH := PySem.W.mg_of X G gH,
    ki_NoThing_HeirError := kit_ref2 hHd hHt su_H_H su_NoThing_H,
    ki_NoNumber_HeirError := kit_ref2 hHd hHt su_H_H su_NoNumber_H,
    ex_NoThing_NoNumber := PySem.W.exm_ref eex_NoNumber ehd_NoNumber ety_NoNumber su_NoThing_NoNumber,
    ex_NoNumber_NoNumber := PySem.W.exm_ref eex_NoNumber ehd_NoNumber ety_NoNumber su_NoNumber_NoNumber,
    ex_NoThing_NoThing := PySem.W.exm_ref eex_NoThing ehd_NoThing ety_NoThing su_NoThing_NoThing,
    ex_NoNumber_NoThing := PySem.W.exm_ref eex_NoThing ehd_NoThing ety_NoThing su_NoNumber_NoThing,
    z_abs := PySem.W.mg_none_of X G z_abs,
    z_all := PySem.W.mg_none_of X G z_all,
    z_bool := PySem.W.mg_none_of X G z_bool,
    z_enumerate := PySem.W.mg_none_of X G z_enumerate,
    z_int := PySem.W.mg_none_of X G z_int,
    z_isinstance := PySem.W.mg_none_of X G z_isinstance,
    z_len := PySem.W.mg_none_of X G z_len,
    z_list := PySem.W.mg_none_of X G z_list,
    z_min := PySem.W.mg_none_of X G z_min,
    z_range := PySem.W.mg_none_of X G z_range,
    z_set := PySem.W.mg_none_of X G z_set,
    z_sorted := PySem.W.mg_none_of X G z_sorted,
    z_str := PySem.W.mg_none_of X G z_str,
    z_tuple := PySem.W.mg_none_of X G z_tuple,
    z_zip := PySem.W.mg_none_of X G z_zip,
    c_MOST_LETTERS := ⟨_, PySem.W.mg_of X G q_MOST_LETTERS⟩,
    c_LETTERS := ⟨_, PySem.W.mg_of X G q_LETTERS⟩ }
theorem fin {P : Program} {w : World} {K : PySem.W.Frag} {mg : Str → Option Value} {T : Tb} {fa : Addr} (tx : Tx K mg T) (hfa : mg "law" = some (.ref fa)) :
    ∃ fd : FuncData, (∀ (s : Shared) (v : Value), BindsTo s fd ⟨[v], []⟩ [("_law_script", v)]) ∧ ∀ base : Heap, K.In base → base.Ns mainGlobals mg → FnOk P w K mg base (L2.CX P w) 12 fa fd ["_law_script"] (spA K 1 f_law) := by
  have e := hfa.symm.trans tx.g_law
  cases e
  refine ⟨tx.d_law, fun s v => ?_, fun base _ _ => (ok_law tx).imp fun _ _ _ _ q => q T⟩
  obtain ⟨oc, od, kV, doc, pm, an, cdv, ct, osl, e, lk, hcd⟩ := tx.F_law.ex
  rw [e]
  exact .of_eq rfl
end Lw
namespace Lw
open PySem Lq
/-! ### the box of draws, the cells of the script -/
theorem take_pos {b0 b1 b2 n : Int} (h : 0 < b0) (h1 : 0 < n) (h2 : n < 1073741824) : f_law_take [b0, b1, b2] [.int n] = some (.int (b0 % n), [b0 / n, b1, b2]) := by
  simp [f_law_take, m_law_take, Lq.runF, Lq.runB, Lq.runL, Lq.boxAt, Lq.startR, Lq.seqS, Lq.nextS, Lq.ifS, Lq.asgS, Lq.asgM, Lq.asgG, Lq.retS, Lq.retF, Lq.dropS, Lq.forS, Lq.loopS, Lq.turnS, Lq.putItem, Lq.isMB, Lq.putS1, Lq.parS, Lq.consMd, Lq.consMf', Lq.noErr, Lq.nilM, Lq.setsR, Lq.nameE, Lq.constE, Lq.op1E, Lq.op2E, Lq.opNE, Lq.opNF, Lq.op2F, Lq.lift1, Lq.lift2, Lq.liftN, Lq.res, Lq.resAll, Lq.valT, Lq.notT, Lq.andT, Lq.orT, Lq.andE, Lq.orE, Lq.notE, Lq.ifE, Lq.consA, Lq.nilA, Lq.frzE, Lq.lstF, Lq.tupE, Lq.callE, Lq.callBE, Lq.callL, Lq.callNew, Lq.slotted, Lq.datAll, Lq.appE, Lq.popE, Lq.compF, Lq.compLoop, Lq.compTurn, Lq.yesT, Lq.wipeR, Lq.backR, Lq.plainC, Lq.nameG, Lq.tupG, Lq.consG, Lq.nilG, Lq.seqI, Lq.rngI1, Lq.rngI2, Lq.enumI, Lq.zipI, Lq.isiE, Lq.slE, Lq.aPart, Lq.noPart, Lq.chainE, Lq.strM, Lq.orF, Lq.R.bind, Lq.R.thnO, Lq.raiseS, Lq.raise0S, Lq.tryS, Lq.hNil, Lq.hAs, Lq.goneS, Lq.enumA, Lq.enumK, Lq.ifF, Lq.permA, Lq.permL, Lq.D.noL, Lq.noLs, Lq.isEx, Lq.fldD, Lq.isErrD, Lq.itemsOf, Lq.onlyB, Lq.isB, Lq.D.flat, Lq.addD, Lq.catF, Lq.subD, Lq.mulD, Lq.fdivD, Lq.modD, Lq.powD, Lq.negD, Lq.ltD, Lq.leD, Lq.gtD, Lq.geD, Lq.eqD, Lq.neD, Lq.sameKind, Lq.isD, Lq.isntD, Lq.isNon, Lq.inD, Lq.ninD, Lq.anyEq, Lq.lenD, Lq.atD, Lq.cutD, Lq.revD, Lq.splitD, Lq.joinD, Lq.tupleD, Lq.listF, Lq.allD, Lq.anyD, Lq.sumD, Lq.absD, Lq.min2D, Lq.max2D, Lq.intD, Lq.strD, Lq.sortedF, Lq.isiB, Lq.tyName, Lq.notObj, Lq.D.items?, Lq.fits, L2.atI, L2.ixN, h, h1, h2]
theorem take_zero {b1 b2 n : Int} (h1 : 0 < n) (h3 : 0 ≤ b2) (h4 : b2 < 1000000000000) : f_law_take [0, b1, b2] [.int n] = some (.int (drawn b1 b2 n), [0, b1, b2 + 1]) := by
  have e1 : big (39373 + (b2 + 1)) = true := big_of (by omega) (by omega)
  have e2 : big 48271 = true := by decide
  have e3 : ∀ z : Int, big (z % 40009 + 7) = true := fun z => big_of (by omega) (by omega)
  simp [f_law_take, m_law_take, Lq.runF, Lq.runB, Lq.runL, Lq.boxAt, Lq.startR, Lq.seqS, Lq.nextS, Lq.ifS, Lq.asgS, Lq.asgM, Lq.asgG, Lq.retS, Lq.retF, Lq.dropS, Lq.forS, Lq.loopS, Lq.turnS, Lq.putItem, Lq.isMB, Lq.putS1, Lq.parS, Lq.consMd, Lq.consMf', Lq.noErr, Lq.nilM, Lq.setsR, Lq.nameE, Lq.constE, Lq.op1E, Lq.op2E, Lq.opNE, Lq.opNF, Lq.op2F, Lq.lift1, Lq.lift2, Lq.liftN, Lq.res, Lq.resAll, Lq.valT, Lq.notT, Lq.andT, Lq.orT, Lq.andE, Lq.orE, Lq.notE, Lq.ifE, Lq.consA, Lq.nilA, Lq.frzE, Lq.lstF, Lq.tupE, Lq.callE, Lq.callBE, Lq.callL, Lq.callNew, Lq.slotted, Lq.datAll, Lq.appE, Lq.popE, Lq.compF, Lq.compLoop, Lq.compTurn, Lq.yesT, Lq.wipeR, Lq.backR, Lq.plainC, Lq.nameG, Lq.tupG, Lq.consG, Lq.nilG, Lq.seqI, Lq.rngI1, Lq.rngI2, Lq.enumI, Lq.zipI, Lq.isiE, Lq.slE, Lq.aPart, Lq.noPart, Lq.chainE, Lq.strM, Lq.orF, Lq.R.bind, Lq.R.thnO, Lq.raiseS, Lq.raise0S, Lq.tryS, Lq.hNil, Lq.hAs, Lq.goneS, Lq.enumA, Lq.enumK, Lq.ifF, Lq.permA, Lq.permL, Lq.D.noL, Lq.noLs, Lq.isEx, Lq.fldD, Lq.isErrD, Lq.itemsOf, Lq.onlyB, Lq.isB, Lq.D.flat, Lq.addD, Lq.catF, Lq.subD, Lq.mulD, Lq.fdivD, Lq.modD, Lq.powD, Lq.negD, Lq.ltD, Lq.leD, Lq.gtD, Lq.geD, Lq.eqD, Lq.neD, Lq.sameKind, Lq.isD, Lq.isntD, Lq.isNon, Lq.inD, Lq.ninD, Lq.anyEq, Lq.lenD, Lq.atD, Lq.cutD, Lq.revD, Lq.splitD, Lq.joinD, Lq.tupleD, Lq.listF, Lq.allD, Lq.anyD, Lq.sumD, Lq.absD, Lq.min2D, Lq.max2D, Lq.intD, Lq.strD, Lq.sortedF, Lq.isiB, Lq.tyName, Lq.notObj, Lq.D.items?, Lq.fits, L2.atI, L2.ixN, h1, e1, e2, e3, drawn]
theorem take_ok {k : Nat} {ns : List Int} {n : Int} (hb : Bx k ns) (h1 : 0 < n) (h2 : n < 1073741824) (hk : k < 1000000000000) : ∃ r ns', f_law_take ns [.int n] = some (.int r, ns') ∧ 0 ≤ r ∧ r < n ∧ Bx (k + 1) ns' := by
  obtain ⟨b0, b1, b2, rfl, g1, g2, g3, g4, g5⟩ := hb
  by_cases h : 0 < b0
  · exact ⟨_, _, take_pos h h1 h2, Int.emod_nonneg _ (by omega), Int.emod_lt_of_pos _ h1, ⟨_, _, _, rfl, Int.ediv_nonneg (by omega) (by omega), g2, g3, g4, by omega⟩⟩
  · have e : b0 = 0 := by omega
    subst e
    exact ⟨_, _, take_zero h1 g4 (by omega), Int.emod_nonneg _ (by omega), Int.emod_lt_of_pos _ h1, ⟨_, _, _, rfl, by omega, g2, g3, by omega, by omega⟩⟩
theorem box_ok {ms : List Int} {k : Nat} (hk : k < ms.length) (h3 : ms.length ≤ 3) : ∃ b0 b1, f_law_box [.lst (ms.map D.int), .int k] = some [.int b0, .int b1, .int 0] ∧ Bx 0 [b0, b1, 0] := by
  have e2 : ∀ a : Int, big (if 1000000000000000000 ≤ a then 1 else 0) = true := fun a => by split <;> decide
  have e3 : big 39373 = true := by decide
  have hg : (ms.map D.int)[k]? = some (.int ms[k]) := by rw [List.getElem?_map, List.getElem?_eq_getElem hk]; rfl
  refine ⟨(if ms[k] < 0 then -ms[k] else ms[k]) * (if decide (1000000000000000000 ≤ (if ms[k] < 0 then -ms[k] else ms[k])) = true then 1 else 0), ms[k] % 2305843009213693951 + 39373 * (k : Int) + 83053, ?_, ⟨_, _, _, rfl, ?_, ?_, ?_, ?_, ?_⟩⟩
  · simp [f_law_box, m_law_box, Lq.runF, Lq.runB, Lq.runL, Lq.boxAt, Lq.startR, Lq.seqS, Lq.nextS, Lq.ifS, Lq.asgS, Lq.asgM, Lq.asgG, Lq.retS, Lq.retF, Lq.dropS, Lq.forS, Lq.loopS, Lq.turnS, Lq.putItem, Lq.isMB, Lq.putS1, Lq.parS, Lq.consMd, Lq.consMf', Lq.noErr, Lq.nilM, Lq.setsR, Lq.nameE, Lq.constE, Lq.op1E, Lq.op2E, Lq.opNE, Lq.opNF, Lq.op2F, Lq.lift1, Lq.lift2, Lq.liftN, Lq.res, Lq.resAll, Lq.valT, Lq.notT, Lq.andT, Lq.orT, Lq.andE, Lq.orE, Lq.notE, Lq.ifE, Lq.consA, Lq.nilA, Lq.frzE, Lq.lstF, Lq.tupE, Lq.callE, Lq.callBE, Lq.callL, Lq.callNew, Lq.slotted, Lq.datAll, Lq.appE, Lq.popE, Lq.compF, Lq.compLoop, Lq.compTurn, Lq.yesT, Lq.wipeR, Lq.backR, Lq.plainC, Lq.nameG, Lq.tupG, Lq.consG, Lq.nilG, Lq.seqI, Lq.rngI1, Lq.rngI2, Lq.enumI, Lq.zipI, Lq.isiE, Lq.slE, Lq.aPart, Lq.noPart, Lq.chainE, Lq.strM, Lq.orF, Lq.R.bind, Lq.R.thnO, Lq.raiseS, Lq.raise0S, Lq.tryS, Lq.hNil, Lq.hAs, Lq.goneS, Lq.enumA, Lq.enumK, Lq.ifF, Lq.permA, Lq.permL, Lq.D.noL, Lq.noLs, Lq.isEx, Lq.fldD, Lq.isErrD, Lq.itemsOf, Lq.onlyB, Lq.isB, Lq.D.flat, Lq.addD, Lq.catF, Lq.subD, Lq.mulD, Lq.fdivD, Lq.modD, Lq.powD, Lq.negD, Lq.ltD, Lq.leD, Lq.gtD, Lq.geD, Lq.eqD, Lq.neD, Lq.sameKind, Lq.isD, Lq.isntD, Lq.isNon, Lq.inD, Lq.ninD, Lq.anyEq, Lq.lenD, Lq.atD, Lq.cutD, Lq.revD, Lq.splitD, Lq.joinD, Lq.tupleD, Lq.listF, Lq.allD, Lq.anyD, Lq.sumD, Lq.absD, Lq.min2D, Lq.max2D, Lq.intD, Lq.strD, Lq.sortedF, Lq.isiB, Lq.tyName, Lq.notObj, Lq.D.items?, Lq.fits, L2.atI, L2.ixN, e2, e3, hk, hg]
  · exact Int.mul_nonneg (by split <;> omega) ((fun b : Bool => (by cases b <;> decide : (0 : Int) ≤ if b = true then 1 else 0)) _)
  · have := Int.emod_nonneg ms[k] (show (2305843009213693951 : Int) ≠ 0 by decide); omega
  · have := Int.emod_lt_of_pos ms[k] (show (0 : Int) < 2305843009213693951 by decide); omega
  · omega
  · omega
theorem cells_loop {ns : List Int} : ∀ (xs : List Int) (i : Nat) (ms : List Int) (c3 c4 c5 : Cell), ms.length = 3 → i + xs.length ≤ 63 → ∃ (ms' : List Int) (c3' c4' c5' : Cell), ms'.length = 3 ∧
    loopS (turnS m_law_cells_g1 m_law_cells_b1) (((xs.map D.int).zipIdx i).map fun p => D.tup [.int (p.2 : Nat), p.1]) [.d (.scr ns), .d (.int 3), .m (ms.map D.int), c3, c4, c5] = .nx [.d (.scr ns), .d (.int 3), .m (ms'.map D.int), c3', c4', c5']
  | [], i, ms, c3, c4, c5, h, _ => ⟨ms, c3, c4, c5, h, by simp [loopS]⟩
  | x :: xs, i, ms, c3, c4, c5, h, hl => by
    rw [List.length_cons] at hl
    have hj : ((i : Int) % 3).toNat < ms.length := by omega
    have hj0 : 0 ≤ (i : Int) % 3 := Int.emod_nonneg _ (by decide)
    have hj1 : (i : Int) % 3 < 3 := Int.emod_lt_of_pos _ (by decide)
    have hg : (ms.map D.int)[((i : Int) % 3).toNat]? = some (.int ms[((i : Int) % 3).toNat]) := by rw [List.getElem?_map, List.getElem?_eq_getElem hj]; rfl
    obtain ⟨ms', a3, a4, a5, hm, e⟩ := cells_loop xs (i + 1) (ms.set ((i : Int) % 3).toNat (ms[((i : Int) % 3).toNat] + x * ((i : Int) + 2))) (.d (.int i)) (.d (.int x)) (.d (.int ((i : Int) % 3))) (by rw [List.length_set]; exact h) (by omega)
    refine ⟨ms', a3, a4, a5, hm, ?_⟩
    rw [List.map_cons, List.zipIdx_cons, List.map_cons, loopS]
    have eb : turnS m_law_cells_g1 m_law_cells_b1 (D.tup [.int (i : Nat), .int x]) [.d (.scr ns), .d (.int 3), .m (ms.map D.int), c3, c4, c5] = .nx [.d (.scr ns), .d (.int 3), .m ((ms.set ((i : Int) % 3).toNat (ms[((i : Int) % 3).toNat] + x * ((i : Int) + 2))).map D.int), .d (.int i), .d (.int x), .d (.int ((i : Int) % 3))] := by
      have hb : big ((i : Int) + 2) = true := big_of (by omega) (by omega)
      simp [m_law_cells_g1, m_law_cells_b1, Lq.runF, Lq.runB, Lq.runL, Lq.boxAt, Lq.startR, Lq.seqS, Lq.nextS, Lq.ifS, Lq.asgS, Lq.asgM, Lq.asgG, Lq.retS, Lq.retF, Lq.dropS, Lq.forS, Lq.loopS, Lq.turnS, Lq.putItem, Lq.isMB, Lq.putS1, Lq.parS, Lq.consMd, Lq.consMf', Lq.noErr, Lq.nilM, Lq.setsR, Lq.nameE, Lq.constE, Lq.op1E, Lq.op2E, Lq.opNE, Lq.opNF, Lq.op2F, Lq.lift1, Lq.lift2, Lq.liftN, Lq.res, Lq.resAll, Lq.valT, Lq.notT, Lq.andT, Lq.orT, Lq.andE, Lq.orE, Lq.notE, Lq.ifE, Lq.consA, Lq.nilA, Lq.frzE, Lq.lstF, Lq.tupE, Lq.callE, Lq.callBE, Lq.callL, Lq.callNew, Lq.slotted, Lq.datAll, Lq.appE, Lq.popE, Lq.compF, Lq.compLoop, Lq.compTurn, Lq.yesT, Lq.wipeR, Lq.backR, Lq.plainC, Lq.nameG, Lq.tupG, Lq.consG, Lq.nilG, Lq.seqI, Lq.rngI1, Lq.rngI2, Lq.enumI, Lq.zipI, Lq.isiE, Lq.slE, Lq.aPart, Lq.noPart, Lq.chainE, Lq.strM, Lq.orF, Lq.R.bind, Lq.R.thnO, Lq.raiseS, Lq.raise0S, Lq.tryS, Lq.hNil, Lq.hAs, Lq.goneS, Lq.enumA, Lq.enumK, Lq.ifF, Lq.permA, Lq.permL, Lq.D.noL, Lq.noLs, Lq.isEx, Lq.fldD, Lq.isErrD, Lq.itemsOf, Lq.onlyB, Lq.isB, Lq.D.flat, Lq.addD, Lq.catF, Lq.subD, Lq.mulD, Lq.fdivD, Lq.modD, Lq.powD, Lq.negD, Lq.ltD, Lq.leD, Lq.gtD, Lq.geD, Lq.eqD, Lq.neD, Lq.sameKind, Lq.isD, Lq.isntD, Lq.isNon, Lq.inD, Lq.ninD, Lq.anyEq, Lq.lenD, Lq.atD, Lq.cutD, Lq.revD, Lq.splitD, Lq.joinD, Lq.tupleD, Lq.listF, Lq.allD, Lq.anyD, Lq.sumD, Lq.absD, Lq.min2D, Lq.max2D, Lq.intD, Lq.strD, Lq.sortedF, Lq.isiB, Lq.tyName, Lq.notObj, Lq.D.items?, Lq.fits, L2.atI, L2.ixN, h, hj0, hj1, hg, hb, List.map_set]
    rw [eb]
    exact e
end Lw
namespace Lw
open PySem Lq
theorem cells_ok {ns : List Int} (h : ns.length ≤ 63) : ∃ ms : List Int, f_law_cells [.scr ns, .int 3] = .ok (.lst (ms.map D.int)) ∧ 1 ≤ ms.length ∧ ms.length ≤ 3 := by
  have e1 : cutL (ns.map D.int) none (some 3) = (ns.take 3).map D.int := by rw [show (3 : Int) = ((3 : Nat) : Int) from rfl, cutL_to, List.map_take]
  have e2 : cutL (ns.map D.int) (some 3) (some 63) = (ns.drop 3).map D.int := by rw [show (3 : Int) = ((3 : Nat) : Int) from rfl, show (63 : Int) = ((63 : Nat) : Int) from rfl, cutL_ft, List.take_of_length_le (by rw [List.length_map]; exact h), List.map_drop]
  by_cases h0 : ns = []
  · subst h0
    exact ⟨[0], by rfl, by decide, by decide⟩
  · by_cases hl : ns.length ≤ 3
    · rw [List.drop_eq_nil_of_le hl, List.map_nil] at e2
      rw [List.take_of_length_le hl] at e1
      refine ⟨ns, ?_, List.length_pos_iff.2 h0, hl⟩
      have e6 : loopS (turnS m_law_cells_g1 m_law_cells_b1) [] [.d (.scr ns), .d (.int 3), .m (ns.map D.int), .no, .no, .no] = .nx _ := rfl
      simp [f_law_cells, m_law_cells, m_law_cells_l1, Lq.runF, Lq.runB, Lq.runL, Lq.boxAt, Lq.startR, Lq.seqS, Lq.nextS, Lq.ifS, Lq.asgS, Lq.asgM, Lq.asgG, Lq.retS, Lq.retF, Lq.dropS, Lq.forS, Lq.putItem, Lq.isMB, Lq.putS1, Lq.parS, Lq.consMd, Lq.consMf', Lq.noErr, Lq.nilM, Lq.setsR, Lq.nameE, Lq.constE, Lq.op1E, Lq.op2E, Lq.opNE, Lq.opNF, Lq.op2F, Lq.lift1, Lq.lift2, Lq.liftN, Lq.res, Lq.resAll, Lq.valT, Lq.notT, Lq.andT, Lq.orT, Lq.andE, Lq.orE, Lq.notE, Lq.ifE, Lq.consA, Lq.nilA, Lq.frzE, Lq.lstF, Lq.tupE, Lq.callE, Lq.callBE, Lq.callL, Lq.callNew, Lq.slotted, Lq.datAll, Lq.appE, Lq.popE, Lq.compF, Lq.yesT, Lq.wipeR, Lq.backR, Lq.plainC, Lq.nameG, Lq.tupG, Lq.consG, Lq.nilG, Lq.seqI, Lq.rngI1, Lq.rngI2, Lq.enumI, Lq.zipI, Lq.isiE, Lq.slE, Lq.aPart, Lq.noPart, Lq.chainE, Lq.strM, Lq.orF, Lq.R.bind, Lq.R.thnO, Lq.raiseS, Lq.raise0S, Lq.tryS, Lq.hNil, Lq.hAs, Lq.goneS, Lq.enumA, Lq.enumK, Lq.ifF, Lq.permA, Lq.permL, Lq.D.noL, Lq.noLs, Lq.isEx, Lq.fldD, Lq.isErrD, Lq.itemsOf, Lq.onlyB, Lq.isB, Lq.D.flat, Lq.addD, Lq.catF, Lq.subD, Lq.mulD, Lq.fdivD, Lq.modD, Lq.powD, Lq.negD, Lq.ltD, Lq.leD, Lq.gtD, Lq.geD, Lq.eqD, Lq.neD, Lq.sameKind, Lq.isD, Lq.isntD, Lq.isNon, Lq.inD, Lq.ninD, Lq.anyEq, Lq.lenD, Lq.atD, Lq.cutD, Lq.revD, Lq.splitD, Lq.joinD, Lq.tupleD, Lq.listF, Lq.allD, Lq.anyD, Lq.sumD, Lq.absD, Lq.min2D, Lq.max2D, Lq.intD, Lq.strD, Lq.sortedF, Lq.isiB, Lq.tyName, Lq.notObj, Lq.D.items?, Lq.fits, L2.atI, L2.ixN, e1, e2, enumD, e6, h0]
    · obtain ⟨ms', c3, c4, c5, hm, e⟩ := cells_loop (ns := ns) (ns.drop 3) 0 (ns.take 3) .no .no .no (by rw [List.length_take]; omega) (by rw [List.length_drop]; omega)
      refine ⟨ms', ?_, by omega, by omega⟩
      simp only [List.map_drop, List.map_take] at e e1 e2
      simp [f_law_cells, m_law_cells, m_law_cells_l1, Lq.runF, Lq.runB, Lq.runL, Lq.boxAt, Lq.startR, Lq.seqS, Lq.nextS, Lq.ifS, Lq.asgS, Lq.asgM, Lq.asgG, Lq.retS, Lq.retF, Lq.dropS, Lq.forS, Lq.putItem, Lq.isMB, Lq.putS1, Lq.parS, Lq.consMd, Lq.consMf', Lq.noErr, Lq.nilM, Lq.setsR, Lq.nameE, Lq.constE, Lq.op1E, Lq.op2E, Lq.opNE, Lq.opNF, Lq.op2F, Lq.lift1, Lq.lift2, Lq.liftN, Lq.res, Lq.resAll, Lq.valT, Lq.notT, Lq.andT, Lq.orT, Lq.andE, Lq.orE, Lq.notE, Lq.ifE, Lq.consA, Lq.nilA, Lq.frzE, Lq.lstF, Lq.tupE, Lq.callE, Lq.callBE, Lq.callL, Lq.callNew, Lq.slotted, Lq.datAll, Lq.appE, Lq.popE, Lq.compF, Lq.yesT, Lq.wipeR, Lq.backR, Lq.plainC, Lq.nameG, Lq.tupG, Lq.consG, Lq.nilG, Lq.seqI, Lq.rngI1, Lq.rngI2, Lq.enumI, Lq.zipI, Lq.isiE, Lq.slE, Lq.aPart, Lq.noPart, Lq.chainE, Lq.strM, Lq.orF, Lq.R.bind, Lq.R.thnO, Lq.raiseS, Lq.raise0S, Lq.tryS, Lq.hNil, Lq.hAs, Lq.goneS, Lq.enumA, Lq.enumK, Lq.ifF, Lq.permA, Lq.permL, Lq.D.noL, Lq.noLs, Lq.isEx, Lq.fldD, Lq.isErrD, Lq.itemsOf, Lq.onlyB, Lq.isB, Lq.D.flat, Lq.addD, Lq.catF, Lq.subD, Lq.mulD, Lq.fdivD, Lq.modD, Lq.powD, Lq.negD, Lq.ltD, Lq.leD, Lq.gtD, Lq.geD, Lq.eqD, Lq.neD, Lq.sameKind, Lq.isD, Lq.isntD, Lq.isNon, Lq.inD, Lq.ninD, Lq.anyEq, Lq.lenD, Lq.atD, Lq.cutD, Lq.revD, Lq.splitD, Lq.joinD, Lq.tupleD, Lq.listF, Lq.allD, Lq.anyD, Lq.sumD, Lq.absD, Lq.min2D, Lq.max2D, Lq.intD, Lq.strD, Lq.sortedF, Lq.isiB, Lq.tyName, Lq.notObj, Lq.D.items?, Lq.fits, L2.atI, L2.ixN, e1, e2, enumD, h0, e]
def frameR (ns ms : List Int) : Rho := [.d (.scr ns), .d (.lst (ms.map D.int)), .no]
theorem frame_turn (hr : ∀ ns, Bx 0 ns → ∃ ns', f_law_right ns [] = some (.bl true, ns')) {ns ms : List Int} {k : Nat} {acc : List D} (hk : k < ms.length) (e3 : ms.length ≤ 3) (hf : fits (acc.length + 1) = true) :
    ∃ ρ1, Lq.compTurn (nameG 2) yesT m_law_e1 acc (.int k) (frameR ns ms) = .ok (acc ++ [.bl true]) ρ1 ∧ wipeR ρ1 [2] = frameR ns ms := by
  obtain ⟨b0, b1, eb, hb⟩ := box_ok hk e3
  obtain ⟨ns', er⟩ := hr _ hb
  refine ⟨[.d (.scr ns), .d (.lst (ms.map D.int)), .d (.int k)], ?_, by simp [wipeR, frameR]⟩
  simp [Lq.runF, Lq.runB, Lq.runL, Lq.boxAt, Lq.startR, Lq.seqS, Lq.nextS, Lq.ifS, Lq.asgS, Lq.asgM, Lq.asgG, Lq.retS, Lq.retF, Lq.dropS, Lq.forS, Lq.loopS, Lq.turnS, Lq.putItem, Lq.isMB, Lq.putS1, Lq.parS, Lq.consMd, Lq.consMf', Lq.noErr, Lq.nilM, Lq.setsR, Lq.nameE, Lq.constE, Lq.op1E, Lq.op2E, Lq.opNE, Lq.opNF, Lq.op2F, Lq.lift1, Lq.lift2, Lq.liftN, Lq.res, Lq.resAll, Lq.valT, Lq.notT, Lq.andT, Lq.orT, Lq.andE, Lq.orE, Lq.notE, Lq.ifE, Lq.consA, Lq.nilA, Lq.frzE, Lq.lstF, Lq.tupE, Lq.callE, Lq.callBE, Lq.callL, Lq.callNew, Lq.slotted, Lq.datAll, Lq.appE, Lq.popE, Lq.compF, Lq.compLoop, Lq.compTurn, Lq.yesT, Lq.wipeR, Lq.backR, Lq.plainC, Lq.nameG, Lq.tupG, Lq.consG, Lq.nilG, Lq.seqI, Lq.rngI1, Lq.rngI2, Lq.enumI, Lq.zipI, Lq.isiE, Lq.slE, Lq.aPart, Lq.noPart, Lq.chainE, Lq.strM, Lq.orF, Lq.R.bind, Lq.R.thnO, Lq.raiseS, Lq.raise0S, Lq.tryS, Lq.hNil, Lq.hAs, Lq.goneS, Lq.enumA, Lq.enumK, Lq.ifF, Lq.permA, Lq.permL, Lq.D.noL, Lq.noLs, Lq.isEx, Lq.fldD, Lq.isErrD, Lq.itemsOf, Lq.onlyB, Lq.isB, Lq.D.flat, frameR, m_law_e1, eb, er, allOf, D.int?, hf]
theorem frame_all (hr : ∀ ns, Bx 0 ns → ∃ ns', f_law_right ns [] = some (.bl true, ns')) {ns ms : List Int} (e3 : ms.length ≤ 3) :
    Lq.compLoop [2] (nameG 2) yesT m_law_e1 [] (rng 0 ms.length) (frameR ns ms) = .ok (List.replicate ms.length (.bl true)) (frameR ns ms) := by
  have hl : (rng 0 ms.length).length = ms.length := by unfold rng; rw [List.length_map, List.length_range]
  obtain ⟨ρ', ec, hi⟩ := comp_inv (vs := [2]) (gd := nameG 2) (ft := yesT) (fe := m_law_e1) (fun _ ρ => ρ = frameR ns ms) (D.bl true) 3 (rng 0 ms.length) [] 0 (frameR ns ms) rfl (fun d hd k ρ acc hi _ hf => by
    subst hi
    obtain ⟨k, hk, rfl⟩ := rng_mem hd
    exact frame_turn hr hk e3 hf) (by rw [hl, List.length_nil]; omega) (by rw [hl]; omega)
  rw [List.nil_append, rng_true, hi] at ec
  exact ec
theorem frame_rng {ns ms : List Int} (e3 : ms.length ≤ 3) : rngI1 (consA (opNE lenD (consA (nameE 1) nilA)) nilA) (frameR ns ms) = .ok (rng 0 ms.length) (frameR ns ms) := by
  have er : okR (ms.length : Int) = true := okR_small (by omega) (by omega)
  simp [frameR, Lq.rngI1, Lq.consA, Lq.nilA, Lq.opNE, Lq.nameE, Lq.R.bind, Lq.liftN, Lq.resAll, Lq.res, Lq.lenD, er]
theorem frame_comp (hr : ∀ ns, Bx 0 ns → ∃ ns', f_law_right ns [] = some (.bl true, ns')) {ns ms : List Int} (e3 : ms.length ≤ 3) :
    Lq.compF [2] (rngI1 (consA (opNE lenD (consA (nameE 1) nilA)) nilA)) (nameG 2) yesT m_law_e1 (frameR ns ms) = .ok (List.replicate ms.length (.bl true)) (frameR ns ms) := by
  have ew : wipeR (frameR ns ms) [2] = frameR ns ms := rfl
  have ep : ([2] : List Nat).all (fun v => plainC ((frameR ns ms).getD v .no)) = true := rfl
  have eb : backR (frameR ns ms) (frameR ns ms) [2] = frameR ns ms := rfl
  simp only [Lq.compF, frame_rng e3, Lq.R.bind, ep, ew, frame_all hr e3, eb, if_true]
theorem frame (hh : f_law_by_hand_right [] = .ok (.bl true)) (hr : ∀ ns, Bx 0 ns → ∃ ns', f_law_right ns [] = some (.bl true, ns')) {ns : List Int} (h : ns.length ≤ 63) : f_law [.scr ns] = .ok (.bl true) := by
  obtain ⟨ms, e1, e2, e3⟩ := cells_ok h
  have e5 := frame_comp hr (ns := ns) e3
  have ea := all_true ms.length
  unfold frameR at e5
  simp [f_law, m_law, m_law_c1, e1, hh, Lq.andE, Lq.slotted, e5, ea, Lq.runF, Lq.startR, Lq.seqS, Lq.asgS, Lq.callE, Lq.consA, Lq.nilA, Lq.nameE, Lq.constE, Lq.R.bind, Lq.R.thnO, Lq.retS, Lq.opNE, Lq.frzE, Lq.liftN, Lq.resAll, Lq.res]
end Lw
namespace Lw
open PySem Lq
/-! ### different ones drawn -/
theorem pick_ok {k : Nat} {ns : List Int} {xs : List D} {c : Int} (hb : Bx k ns) (h0 : 0 ≤ c) (h1 : xs.length ≤ 1000) (hk : k < 1000000000) : ∃ ys ns', f_law_pick ns [.lst xs, .int c] = some (.lst ys, ns') ∧ (∃ zs, (ys ++ zs).Perm xs) ∧ ys.length = min c.toNat xs.length ∧ Bx (k + min c.toNat xs.length) ns' := by
  obtain ⟨ρ', el, hi⟩ := loop_inv (body := turnS (nameG 5) m_law_pick_b1) (fun j ρ => j ≤ min c.toNat xs.length → ∃ ns ys zs cc, ρ = [.b ns, .d (.lst xs), .d (.int c), .m zs, .m ys, cc] ∧ (ys ++ zs).Perm xs ∧ ys.length = j ∧ Bx (k + j) ns) (rng 0 (min c.toNat xs.length)) 0
    [.b ns, .d (.lst xs), .d (.int c), .m xs, .m [], .no] (fun _ => ⟨ns, [], xs, .no, rfl, List.Perm.refl _, rfl, hb⟩) (fun j d ρ hj hi => by
      obtain ⟨hj1, rfl⟩ := rng_at hj
      obtain ⟨ns1, ys, zs, cc, rfl, hp, hl, hb1⟩ := hi (by omega)
      have hle := hp.length_eq
      rw [List.length_append] at hle
      have hz : 0 < zs.length := by omega
      obtain ⟨r, ns2, e, g1, g2, g3⟩ := take_ok hb1 (n := zs.length) (by omega) (by omega) (by omega)
      have hr : r.toNat < zs.length := by omega
      have hg : zs[r.toNat]? = some zs[r.toNat] := List.getElem?_eq_getElem hr
      have hr2 : r < 1000000 := by omega
      have hf : ys.length + 1 ≤ 1000000 := by omega
      refine ⟨[.b ns2, .d (.lst xs), .d (.int c), .m (zs.eraseIdx r.toNat), .m (ys ++ [zs[r.toNat]]), .d (.int (0 + (j : Nat)))], ?_, fun _ => ⟨ns2, ys ++ [zs[r.toNat]], zs.eraseIdx r.toNat, _, rfl, ?_, by rw [List.length_append, List.length_singleton]; omega, by rw [show k + (0 + j + 1) = k + (0 + j) + 1 by omega]; exact g3⟩⟩
      · simp [m_law_pick_b1, Lq.runF, Lq.runB, Lq.runL, Lq.boxAt, Lq.startR, Lq.seqS, Lq.nextS, Lq.ifS, Lq.asgS, Lq.asgM, Lq.asgG, Lq.retS, Lq.retF, Lq.dropS, Lq.forS, Lq.loopS, Lq.turnS, Lq.putItem, Lq.isMB, Lq.putS1, Lq.parS, Lq.consMd, Lq.consMf', Lq.noErr, Lq.nilM, Lq.setsR, Lq.nameE, Lq.constE, Lq.op1E, Lq.op2E, Lq.opNE, Lq.opNF, Lq.op2F, Lq.lift1, Lq.lift2, Lq.liftN, Lq.res, Lq.resAll, Lq.valT, Lq.notT, Lq.andT, Lq.orT, Lq.andE, Lq.orE, Lq.notE, Lq.ifE, Lq.consA, Lq.nilA, Lq.frzE, Lq.lstF, Lq.tupE, Lq.callE, Lq.callBE, Lq.callL, Lq.callNew, Lq.slotted, Lq.datAll, Lq.appE, Lq.popE, Lq.compF, Lq.compLoop, Lq.compTurn, Lq.yesT, Lq.wipeR, Lq.backR, Lq.plainC, Lq.nameG, Lq.tupG, Lq.consG, Lq.nilG, Lq.seqI, Lq.rngI1, Lq.rngI2, Lq.enumI, Lq.zipI, Lq.isiE, Lq.slE, Lq.aPart, Lq.noPart, Lq.chainE, Lq.strM, Lq.orF, Lq.R.bind, Lq.R.thnO, Lq.raiseS, Lq.raise0S, Lq.tryS, Lq.hNil, Lq.hAs, Lq.goneS, Lq.enumA, Lq.enumK, Lq.ifF, Lq.permA, Lq.permL, Lq.D.noL, Lq.noLs, Lq.isEx, Lq.fldD, Lq.isErrD, Lq.itemsOf, Lq.onlyB, Lq.isB, Lq.D.flat, Lq.addD, Lq.catF, Lq.subD, Lq.mulD, Lq.fdivD, Lq.modD, Lq.powD, Lq.negD, Lq.ltD, Lq.leD, Lq.gtD, Lq.geD, Lq.eqD, Lq.neD, Lq.sameKind, Lq.isD, Lq.isntD, Lq.isNon, Lq.inD, Lq.ninD, Lq.anyEq, Lq.lenD, Lq.atD, Lq.cutD, Lq.revD, Lq.splitD, Lq.joinD, Lq.tupleD, Lq.listF, Lq.allD, Lq.anyD, Lq.sumD, Lq.absD, Lq.min2D, Lq.max2D, Lq.intD, Lq.strD, Lq.sortedF, Lq.isiB, Lq.tyName, Lq.notObj, Lq.D.items?, Lq.fits, L2.atI, L2.ixN, e, hg, g1, g2, hr2, hf]
      · rw [List.append_assoc]
        exact ((erase_perm hr).append_left ys).trans hp)
  rw [rng_len, Nat.zero_add] at hi
  obtain ⟨ns1, ys, zs, cc, rfl, hp, hl, hb1⟩ := hi (Nat.le_refl _)
  refine ⟨ys, ns1, ?_, ⟨zs, hp⟩, hl, hb1⟩
  have em : (if c ≤ (xs.length : Int) then c else (xs.length : Int)) = ((min c.toNat xs.length : Nat) : Int) := by split <;> omega
  have em2 : (if (xs.length : Int) < c then (xs.length : Int) else c) = ((min c.toNat xs.length : Nat) : Int) := by split <;> omega
  have eo : okR ((min c.toNat xs.length : Nat) : Int) = true := okR_small (by omega) (by omega)
  rw [← Int.toNat_natCast (min c.toNat xs.length), ← em2] at el
  rw [← em2] at eo
  simp [f_law_pick, m_law_pick, m_law_pick_l1, Lq.runF, Lq.runB, Lq.runL, Lq.boxAt, Lq.startR, Lq.seqS, Lq.nextS, Lq.ifS, Lq.asgS, Lq.asgM, Lq.asgG, Lq.retS, Lq.retF, Lq.dropS, Lq.forS, Lq.putItem, Lq.isMB, Lq.putS1, Lq.parS, Lq.consMd, Lq.consMf', Lq.noErr, Lq.nilM, Lq.setsR, Lq.nameE, Lq.constE, Lq.op1E, Lq.op2E, Lq.opNE, Lq.opNF, Lq.op2F, Lq.lift1, Lq.lift2, Lq.liftN, Lq.res, Lq.resAll, Lq.valT, Lq.notT, Lq.andT, Lq.orT, Lq.andE, Lq.orE, Lq.notE, Lq.ifE, Lq.consA, Lq.nilA, Lq.frzE, Lq.lstF, Lq.tupE, Lq.callE, Lq.callBE, Lq.callL, Lq.callNew, Lq.slotted, Lq.datAll, Lq.appE, Lq.popE, Lq.compF, Lq.yesT, Lq.wipeR, Lq.backR, Lq.plainC, Lq.nameG, Lq.tupG, Lq.consG, Lq.nilG, Lq.seqI, Lq.rngI1, Lq.rngI2, Lq.enumI, Lq.zipI, Lq.isiE, Lq.slE, Lq.aPart, Lq.noPart, Lq.chainE, Lq.strM, Lq.orF, Lq.R.bind, Lq.R.thnO, Lq.raiseS, Lq.raise0S, Lq.tryS, Lq.hNil, Lq.hAs, Lq.goneS, Lq.enumA, Lq.enumK, Lq.ifF, Lq.permA, Lq.permL, Lq.D.noL, Lq.noLs, Lq.isEx, Lq.fldD, Lq.isErrD, Lq.itemsOf, Lq.onlyB, Lq.isB, Lq.D.flat, Lq.addD, Lq.catF, Lq.subD, Lq.mulD, Lq.fdivD, Lq.modD, Lq.powD, Lq.negD, Lq.ltD, Lq.leD, Lq.gtD, Lq.geD, Lq.eqD, Lq.neD, Lq.sameKind, Lq.isD, Lq.isntD, Lq.isNon, Lq.inD, Lq.ninD, Lq.anyEq, Lq.lenD, Lq.atD, Lq.cutD, Lq.revD, Lq.splitD, Lq.joinD, Lq.tupleD, Lq.listF, Lq.allD, Lq.anyD, Lq.sumD, Lq.absD, Lq.min2D, Lq.max2D, Lq.intD, Lq.strD, Lq.sortedF, Lq.isiB, Lq.tyName, Lq.notObj, Lq.D.items?, Lq.fits, L2.atI, L2.ixN, el, eo]
end Lw
namespace Lw
open PySem Lq
/-! ### equal data are the same; lists of lists -/
theorem same_ok : ∀ (n : Nat) (d : D), good n d = true → f_law_same n [d, d] = .ok (.bl true)
  | 0, _, h => by cases h
  | n + 1, d, h => by
    have hc : ∀ (xs : List D) (x : D) (hz : zipI (consA (nameE 0) (consA (nameE 1) nilA)) [.d x, .d x, .no, .no] = .ok (zipD xs xs) [.d x, .d x, .no, .no]), xs.length ≤ 1000000 → (∀ y ∈ xs, good n y = true) →
        opNE allD (consA (frzE (compF [2, 3] (zipI (consA (nameE 0) (consA (nameE 1) nilA))) (tupG 2 (consG (nameG 2) (consG (nameG 3) nilG))) yesT (m_law_same_e1 (f_law_same n)))) nilA) [.d x, .d x, .no, .no] = .ok (.d (.bl true)) [.d x, .d x, .no, .no] := fun xs x hz hl hg => by
      have e := compF_map (vs := [2, 3]) (gd := tupG 2 (consG (nameG 2) (consG (nameG 3) nilG))) (fe := m_law_same_e1 (f_law_same n)) (fun _ => D.bl true) hz rfl rfl rfl (by rw [zip_self_len]; exact hl) (fun d hd => by
        obtain ⟨y, hy, rfl⟩ := zip_self hd
        refine ⟨[.d x, .d x, .d y, .d y], [.d x, .d x, .d y, .d y], rfl, ?_, rfl⟩
        simp [m_law_same_e1, Lq.runF, Lq.runB, Lq.runL, Lq.boxAt, Lq.startR, Lq.seqS, Lq.nextS, Lq.ifS, Lq.asgS, Lq.asgM, Lq.asgG, Lq.retS, Lq.retF, Lq.dropS, Lq.forS, Lq.loopS, Lq.turnS, Lq.putItem, Lq.isMB, Lq.putS1, Lq.parS, Lq.consMd, Lq.consMf', Lq.noErr, Lq.nilM, Lq.setsR, Lq.nameE, Lq.constE, Lq.op1E, Lq.op2E, Lq.opNE, Lq.opNF, Lq.op2F, Lq.lift1, Lq.lift2, Lq.liftN, Lq.res, Lq.resAll, Lq.valT, Lq.notT, Lq.andT, Lq.orT, Lq.andE, Lq.orE, Lq.notE, Lq.ifE, Lq.consA, Lq.nilA, Lq.frzE, Lq.lstF, Lq.tupE, Lq.callE, Lq.callBE, Lq.callL, Lq.callNew, Lq.slotted, Lq.datAll, Lq.appE, Lq.popE, Lq.compF, Lq.compLoop, Lq.compTurn, Lq.yesT, Lq.wipeR, Lq.backR, Lq.plainC, Lq.nameG, Lq.tupG, Lq.consG, Lq.nilG, Lq.seqI, Lq.rngI1, Lq.rngI2, Lq.enumI, Lq.zipI, Lq.isiE, Lq.slE, Lq.aPart, Lq.noPart, Lq.chainE, Lq.strM, Lq.orF, Lq.R.bind, Lq.R.thnO, Lq.raiseS, Lq.raise0S, Lq.tryS, Lq.hNil, Lq.hAs, Lq.goneS, Lq.enumA, Lq.enumK, Lq.ifF, Lq.permA, Lq.permL, Lq.D.noL, Lq.noLs, Lq.isEx, Lq.fldD, Lq.isErrD, Lq.itemsOf, Lq.onlyB, Lq.isB, Lq.D.flat, same_ok n y (hg y hy)])
      rw [map_yes] at e
      simp only [Lq.opNE, Lq.consA, Lq.nilA, Lq.frzE, e, Lq.R.bind, Lq.liftN, Lq.resAll, Lq.res, all_true]
    cases d with
    | obj _ _ => cases h
    | scr _ => cases h
    | lst xs =>
      obtain ⟨hl, hg⟩ : xs.length ≤ 1000000 ∧ ∀ y ∈ xs, good n y = true := by
        unfold good at h
        rw [Bool.and_eq_true] at h
        exact ⟨of_decide_eq_true h.1, List.all_eq_true.1 h.2⟩
      have e := hc xs (.lst xs) (by simp [Lq.runF, Lq.runB, Lq.runL, Lq.boxAt, Lq.startR, Lq.seqS, Lq.nextS, Lq.ifS, Lq.asgS, Lq.asgM, Lq.asgG, Lq.retS, Lq.retF, Lq.dropS, Lq.forS, Lq.loopS, Lq.turnS, Lq.putItem, Lq.isMB, Lq.putS1, Lq.parS, Lq.consMd, Lq.consMf', Lq.noErr, Lq.nilM, Lq.setsR, Lq.nameE, Lq.constE, Lq.op1E, Lq.op2E, Lq.opNE, Lq.opNF, Lq.op2F, Lq.lift1, Lq.lift2, Lq.liftN, Lq.res, Lq.resAll, Lq.valT, Lq.notT, Lq.andT, Lq.orT, Lq.andE, Lq.orE, Lq.notE, Lq.ifE, Lq.consA, Lq.nilA, Lq.frzE, Lq.lstF, Lq.tupE, Lq.callE, Lq.callBE, Lq.callL, Lq.callNew, Lq.slotted, Lq.datAll, Lq.appE, Lq.popE, Lq.compF, Lq.compLoop, Lq.compTurn, Lq.yesT, Lq.wipeR, Lq.backR, Lq.plainC, Lq.nameG, Lq.tupG, Lq.consG, Lq.nilG, Lq.seqI, Lq.rngI1, Lq.rngI2, Lq.enumI, Lq.zipI, Lq.isiE, Lq.slE, Lq.aPart, Lq.noPart, Lq.chainE, Lq.strM, Lq.orF, Lq.R.bind, Lq.R.thnO, Lq.raiseS, Lq.raise0S, Lq.tryS, Lq.hNil, Lq.hAs, Lq.goneS, Lq.enumA, Lq.enumK, Lq.ifF, Lq.permA, Lq.permL, Lq.D.noL, Lq.noLs, Lq.isEx, Lq.fldD, Lq.isErrD, Lq.itemsOf, Lq.onlyB, Lq.isB, Lq.D.flat]) hl hg
      generalize hF : opNE allD (consA (frzE (compF [2, 3] (zipI (consA (nameE 0) (consA (nameE 1) nilA))) (tupG 2 (consG (nameG 2) (consG (nameG 3) nilG))) yesT (m_law_same_e1 (f_law_same n)))) nilA) = F at e
      rw [f_law_same, m_law_same, m_law_same_c1, hF]
      simp [Lq.runF, Lq.runB, Lq.runL, Lq.boxAt, Lq.startR, Lq.seqS, Lq.nextS, Lq.ifS, Lq.asgS, Lq.asgM, Lq.asgG, Lq.retS, Lq.retF, Lq.dropS, Lq.forS, Lq.loopS, Lq.turnS, Lq.putItem, Lq.isMB, Lq.putS1, Lq.parS, Lq.consMd, Lq.consMf', Lq.noErr, Lq.nilM, Lq.setsR, Lq.nameE, Lq.constE, Lq.op1E, Lq.op2E, Lq.opNE, Lq.opNF, Lq.op2F, Lq.lift1, Lq.lift2, Lq.liftN, Lq.res, Lq.resAll, Lq.valT, Lq.notT, Lq.andT, Lq.orT, Lq.andE, Lq.orE, Lq.notE, Lq.ifE, Lq.consA, Lq.nilA, Lq.frzE, Lq.lstF, Lq.tupE, Lq.callE, Lq.callBE, Lq.callL, Lq.callNew, Lq.slotted, Lq.datAll, Lq.appE, Lq.popE, Lq.compF, Lq.compLoop, Lq.compTurn, Lq.yesT, Lq.wipeR, Lq.backR, Lq.plainC, Lq.nameG, Lq.tupG, Lq.consG, Lq.nilG, Lq.seqI, Lq.rngI1, Lq.rngI2, Lq.enumI, Lq.zipI, Lq.isiE, Lq.slE, Lq.aPart, Lq.noPart, Lq.chainE, Lq.strM, Lq.orF, Lq.R.bind, Lq.R.thnO, Lq.raiseS, Lq.raise0S, Lq.tryS, Lq.hNil, Lq.hAs, Lq.goneS, Lq.enumA, Lq.enumK, Lq.ifF, Lq.permA, Lq.permL, Lq.D.noL, Lq.noLs, Lq.isEx, Lq.fldD, Lq.isErrD, Lq.itemsOf, Lq.onlyB, Lq.isB, Lq.D.flat, Lq.addD, Lq.catF, Lq.subD, Lq.mulD, Lq.fdivD, Lq.modD, Lq.powD, Lq.negD, Lq.ltD, Lq.leD, Lq.gtD, Lq.geD, Lq.eqD, Lq.neD, Lq.sameKind, Lq.isD, Lq.isntD, Lq.isNon, Lq.inD, Lq.ninD, Lq.anyEq, Lq.lenD, Lq.atD, Lq.cutD, Lq.revD, Lq.splitD, Lq.joinD, Lq.tupleD, Lq.listF, Lq.allD, Lq.anyD, Lq.sumD, Lq.absD, Lq.min2D, Lq.max2D, Lq.intD, Lq.strD, Lq.sortedF, Lq.isiB, Lq.tyName, Lq.notObj, Lq.D.items?, Lq.fits, L2.atI, L2.ixN, e, Lq.deq]
    | tup xs =>
      obtain ⟨hl, hg⟩ : xs.length ≤ 1000000 ∧ ∀ y ∈ xs, good n y = true := by
        unfold good at h
        rw [Bool.and_eq_true] at h
        exact ⟨of_decide_eq_true h.1, List.all_eq_true.1 h.2⟩
      have e := hc xs (.tup xs) (by simp [Lq.runF, Lq.runB, Lq.runL, Lq.boxAt, Lq.startR, Lq.seqS, Lq.nextS, Lq.ifS, Lq.asgS, Lq.asgM, Lq.asgG, Lq.retS, Lq.retF, Lq.dropS, Lq.forS, Lq.loopS, Lq.turnS, Lq.putItem, Lq.isMB, Lq.putS1, Lq.parS, Lq.consMd, Lq.consMf', Lq.noErr, Lq.nilM, Lq.setsR, Lq.nameE, Lq.constE, Lq.op1E, Lq.op2E, Lq.opNE, Lq.opNF, Lq.op2F, Lq.lift1, Lq.lift2, Lq.liftN, Lq.res, Lq.resAll, Lq.valT, Lq.notT, Lq.andT, Lq.orT, Lq.andE, Lq.orE, Lq.notE, Lq.ifE, Lq.consA, Lq.nilA, Lq.frzE, Lq.lstF, Lq.tupE, Lq.callE, Lq.callBE, Lq.callL, Lq.callNew, Lq.slotted, Lq.datAll, Lq.appE, Lq.popE, Lq.compF, Lq.compLoop, Lq.compTurn, Lq.yesT, Lq.wipeR, Lq.backR, Lq.plainC, Lq.nameG, Lq.tupG, Lq.consG, Lq.nilG, Lq.seqI, Lq.rngI1, Lq.rngI2, Lq.enumI, Lq.zipI, Lq.isiE, Lq.slE, Lq.aPart, Lq.noPart, Lq.chainE, Lq.strM, Lq.orF, Lq.R.bind, Lq.R.thnO, Lq.raiseS, Lq.raise0S, Lq.tryS, Lq.hNil, Lq.hAs, Lq.goneS, Lq.enumA, Lq.enumK, Lq.ifF, Lq.permA, Lq.permL, Lq.D.noL, Lq.noLs, Lq.isEx, Lq.fldD, Lq.isErrD, Lq.itemsOf, Lq.onlyB, Lq.isB, Lq.D.flat]) hl hg
      generalize hF : opNE allD (consA (frzE (compF [2, 3] (zipI (consA (nameE 0) (consA (nameE 1) nilA))) (tupG 2 (consG (nameG 2) (consG (nameG 3) nilG))) yesT (m_law_same_e1 (f_law_same n)))) nilA) = F at e
      rw [f_law_same, m_law_same, m_law_same_c1, hF]
      simp [Lq.runF, Lq.runB, Lq.runL, Lq.boxAt, Lq.startR, Lq.seqS, Lq.nextS, Lq.ifS, Lq.asgS, Lq.asgM, Lq.asgG, Lq.retS, Lq.retF, Lq.dropS, Lq.forS, Lq.loopS, Lq.turnS, Lq.putItem, Lq.isMB, Lq.putS1, Lq.parS, Lq.consMd, Lq.consMf', Lq.noErr, Lq.nilM, Lq.setsR, Lq.nameE, Lq.constE, Lq.op1E, Lq.op2E, Lq.opNE, Lq.opNF, Lq.op2F, Lq.lift1, Lq.lift2, Lq.liftN, Lq.res, Lq.resAll, Lq.valT, Lq.notT, Lq.andT, Lq.orT, Lq.andE, Lq.orE, Lq.notE, Lq.ifE, Lq.consA, Lq.nilA, Lq.frzE, Lq.lstF, Lq.tupE, Lq.callE, Lq.callBE, Lq.callL, Lq.callNew, Lq.slotted, Lq.datAll, Lq.appE, Lq.popE, Lq.compF, Lq.compLoop, Lq.compTurn, Lq.yesT, Lq.wipeR, Lq.backR, Lq.plainC, Lq.nameG, Lq.tupG, Lq.consG, Lq.nilG, Lq.seqI, Lq.rngI1, Lq.rngI2, Lq.enumI, Lq.zipI, Lq.isiE, Lq.slE, Lq.aPart, Lq.noPart, Lq.chainE, Lq.strM, Lq.orF, Lq.R.bind, Lq.R.thnO, Lq.raiseS, Lq.raise0S, Lq.tryS, Lq.hNil, Lq.hAs, Lq.goneS, Lq.enumA, Lq.enumK, Lq.ifF, Lq.permA, Lq.permL, Lq.D.noL, Lq.noLs, Lq.isEx, Lq.fldD, Lq.isErrD, Lq.itemsOf, Lq.onlyB, Lq.isB, Lq.D.flat, Lq.addD, Lq.catF, Lq.subD, Lq.mulD, Lq.fdivD, Lq.modD, Lq.powD, Lq.negD, Lq.ltD, Lq.leD, Lq.gtD, Lq.geD, Lq.eqD, Lq.neD, Lq.sameKind, Lq.isD, Lq.isntD, Lq.isNon, Lq.inD, Lq.ninD, Lq.anyEq, Lq.lenD, Lq.atD, Lq.cutD, Lq.revD, Lq.splitD, Lq.joinD, Lq.tupleD, Lq.listF, Lq.allD, Lq.anyD, Lq.sumD, Lq.absD, Lq.min2D, Lq.max2D, Lq.intD, Lq.strD, Lq.sortedF, Lq.isiB, Lq.tyName, Lq.notObj, Lq.D.items?, Lq.fits, L2.atI, L2.ixN, e, Lq.deq]
    | _ => simp [f_law_same, m_law_same, m_law_same_c1, Lq.runF, Lq.runB, Lq.runL, Lq.boxAt, Lq.startR, Lq.seqS, Lq.nextS, Lq.ifS, Lq.asgS, Lq.asgM, Lq.asgG, Lq.retS, Lq.retF, Lq.dropS, Lq.forS, Lq.loopS, Lq.turnS, Lq.putItem, Lq.isMB, Lq.putS1, Lq.parS, Lq.consMd, Lq.consMf', Lq.noErr, Lq.nilM, Lq.setsR, Lq.nameE, Lq.constE, Lq.op1E, Lq.op2E, Lq.opNE, Lq.opNF, Lq.op2F, Lq.lift1, Lq.lift2, Lq.liftN, Lq.res, Lq.resAll, Lq.valT, Lq.notT, Lq.andT, Lq.orT, Lq.andE, Lq.orE, Lq.notE, Lq.ifE, Lq.consA, Lq.nilA, Lq.frzE, Lq.lstF, Lq.tupE, Lq.callE, Lq.callBE, Lq.callL, Lq.callNew, Lq.slotted, Lq.datAll, Lq.appE, Lq.popE, Lq.compF, Lq.compLoop, Lq.compTurn, Lq.yesT, Lq.wipeR, Lq.backR, Lq.plainC, Lq.nameG, Lq.tupG, Lq.consG, Lq.nilG, Lq.seqI, Lq.rngI1, Lq.rngI2, Lq.enumI, Lq.zipI, Lq.isiE, Lq.slE, Lq.aPart, Lq.noPart, Lq.chainE, Lq.strM, Lq.orF, Lq.R.bind, Lq.R.thnO, Lq.raiseS, Lq.raise0S, Lq.tryS, Lq.hNil, Lq.hAs, Lq.goneS, Lq.enumA, Lq.enumK, Lq.ifF, Lq.permA, Lq.permL, Lq.D.noL, Lq.noLs, Lq.isEx, Lq.fldD, Lq.isErrD, Lq.itemsOf, Lq.onlyB, Lq.isB, Lq.D.flat, Lq.addD, Lq.catF, Lq.subD, Lq.mulD, Lq.fdivD, Lq.modD, Lq.powD, Lq.negD, Lq.ltD, Lq.leD, Lq.gtD, Lq.geD, Lq.eqD, Lq.neD, Lq.sameKind, Lq.isD, Lq.isntD, Lq.isNon, Lq.inD, Lq.ninD, Lq.anyEq, Lq.lenD, Lq.atD, Lq.cutD, Lq.revD, Lq.splitD, Lq.joinD, Lq.tupleD, Lq.listF, Lq.allD, Lq.anyD, Lq.sumD, Lq.absD, Lq.min2D, Lq.max2D, Lq.intD, Lq.strD, Lq.sortedF, Lq.isiB, Lq.tyName, Lq.notObj, Lq.D.items?, Lq.fits, L2.atI, L2.ixN, Lq.deq]
end Lw
namespace Lw
open PySem Lq
/-! ### names, lists, shares -/
def pool : List Str := ["a", "ab", "b", "bag", "cup", "for", "x", "z", "zzzzzzzz"]
def Nm (w : Str) : Prop := f_is_name [.str w] = .ok (.bl true)
theorem nm_pool {w : Str} (h : w ∈ pool) : Nm w := by
  have z : ∀ w ∈ pool, resIs (f_is_name [.str w]) (.bl true) = true := by decide +kernel
  exact resIs_of (z w h)
theorem is_list_tup {ws : List Str} (h : ∀ w ∈ ws, Nm w) (hl : ws.length ≤ 1000) : f_is_list [.tup (ws.map D.str)] = .ok (.bl (decide ws.Nodup)) := by
  have e : m_is_list_c1 [.d (.tup (ws.map D.str)), .no] = .ok (List.replicate ws.length (.bl true)) [.d (.tup (ws.map D.str)), .no] := by
    have e := compF_m (vs := [1]) (fi := seqI (nameE 0)) (gd := nameG 1) (fe := m_is_list_e1) (ρ := [.d (.tup (ws.map D.str)), .no]) (ρ0 := [.d (.tup (ws.map D.str)), .no]) (ds := ws.map D.str) (fun _ => .bl true) rfl rfl (by rw [List.length_map]; omega) (fun d hd => by
      obtain ⟨w, hw, rfl⟩ := List.mem_map.1 hd
      exact ⟨[.d (.tup (ws.map D.str)), .d (.str w)], rfl, by simp [m_is_list_e1, Lq.runF, Lq.runB, Lq.runL, Lq.boxAt, Lq.startR, Lq.seqS, Lq.nextS, Lq.ifS, Lq.asgS, Lq.asgM, Lq.asgG, Lq.retS, Lq.retF, Lq.dropS, Lq.forS, Lq.loopS, Lq.turnS, Lq.putItem, Lq.isMB, Lq.putS1, Lq.parS, Lq.consMd, Lq.consMf', Lq.noErr, Lq.nilM, Lq.setsR, Lq.nameE, Lq.constE, Lq.op1E, Lq.op2E, Lq.opNE, Lq.opNF, Lq.op2F, Lq.lift1, Lq.lift2, Lq.liftN, Lq.res, Lq.resAll, Lq.valT, Lq.notT, Lq.andT, Lq.orT, Lq.andE, Lq.orE, Lq.notE, Lq.ifE, Lq.consA, Lq.nilA, Lq.frzE, Lq.lstF, Lq.tupE, Lq.callE, Lq.callBE, Lq.callL, Lq.callNew, Lq.slotted, Lq.datAll, Lq.appE, Lq.popE, Lq.compF, Lq.compLoop, Lq.compTurn, Lq.yesT, Lq.wipeR, Lq.backR, Lq.plainC, Lq.nameG, Lq.tupG, Lq.consG, Lq.nilG, Lq.seqI, Lq.rngI1, Lq.rngI2, Lq.enumI, Lq.zipI, Lq.isiE, Lq.slE, Lq.aPart, Lq.noPart, Lq.chainE, Lq.strM, Lq.orF, Lq.R.bind, Lq.R.thnO, Lq.raiseS, Lq.raise0S, Lq.tryS, Lq.hNil, Lq.hAs, Lq.goneS, Lq.enumA, Lq.enumK, Lq.ifF, Lq.permA, Lq.permL, Lq.D.noL, Lq.noLs, Lq.isEx, Lq.fldD, Lq.isErrD, Lq.itemsOf, Lq.onlyB, Lq.isB, Lq.D.flat, show f_is_name [.str w] = _ from h w hw], rfl⟩)
    rw [map_yes, List.length_map] at e
    exact e
  have e2 := items_lenSet (x := .tup (ws.map D.str)) rfl hl
  have e3 := all_true ws.length
  have e4 : (((uniq ws).length : Int) == (ws.length : Int)) = decide ws.Nodup := by
    by_cases hn : ws.Nodup
    · rw [uniq_id hn, decide_eq_true hn]; simp
    · rw [decide_eq_false hn]
      have : (uniq ws).length ≠ ws.length := fun z => hn (uniq_len z)
      simp; omega
  simp [f_is_list, m_is_list, Lq.runF, Lq.runB, Lq.runL, Lq.boxAt, Lq.startR, Lq.seqS, Lq.nextS, Lq.ifS, Lq.asgS, Lq.asgM, Lq.asgG, Lq.retS, Lq.retF, Lq.dropS, Lq.forS, Lq.putItem, Lq.isMB, Lq.putS1, Lq.parS, Lq.consMd, Lq.consMf', Lq.noErr, Lq.nilM, Lq.setsR, Lq.nameE, Lq.constE, Lq.op1E, Lq.op2E, Lq.opNE, Lq.opNF, Lq.op2F, Lq.lift1, Lq.lift2, Lq.liftN, Lq.res, Lq.resAll, Lq.valT, Lq.notT, Lq.andT, Lq.orT, Lq.andE, Lq.orE, Lq.notE, Lq.ifE, Lq.consA, Lq.nilA, Lq.frzE, Lq.lstF, Lq.tupE, Lq.callE, Lq.callBE, Lq.callL, Lq.callNew, Lq.slotted, Lq.datAll, Lq.appE, Lq.popE, Lq.yesT, Lq.wipeR, Lq.backR, Lq.plainC, Lq.nameG, Lq.tupG, Lq.consG, Lq.nilG, Lq.seqI, Lq.rngI1, Lq.rngI2, Lq.enumI, Lq.zipI, Lq.isiE, Lq.slE, Lq.aPart, Lq.noPart, Lq.chainE, Lq.strM, Lq.orF, Lq.R.bind, Lq.R.thnO, Lq.raiseS, Lq.raise0S, Lq.tryS, Lq.hNil, Lq.hAs, Lq.goneS, Lq.enumA, Lq.enumK, Lq.ifF, Lq.permA, Lq.permL, Lq.D.noL, Lq.noLs, Lq.isEx, Lq.fldD, Lq.isErrD, Lq.itemsOf, Lq.onlyB, Lq.isB, Lq.D.flat, Lq.addD, Lq.catF, Lq.subD, Lq.negD, Lq.ltD, Lq.leD, Lq.gtD, Lq.geD, Lq.eqD, Lq.neD, Lq.sameKind, Lq.isD, Lq.isntD, Lq.isNon, Lq.lenD, Lq.isiB, Lq.tyName, Lq.notObj, Lq.D.items?, Lq.fits, L2.atI, L2.ixN, e, e2, e3, deq, e4]
theorem is_list_lst {xs : List D} : f_is_list [.lst xs] = .ok (.bl false) := by
  simp [f_is_list, m_is_list, Lq.runF, Lq.runB, Lq.runL, Lq.boxAt, Lq.startR, Lq.seqS, Lq.nextS, Lq.ifS, Lq.asgS, Lq.asgM, Lq.asgG, Lq.retS, Lq.retF, Lq.dropS, Lq.forS, Lq.putItem, Lq.isMB, Lq.putS1, Lq.parS, Lq.consMd, Lq.consMf', Lq.noErr, Lq.nilM, Lq.setsR, Lq.nameE, Lq.constE, Lq.op1E, Lq.op2E, Lq.opNE, Lq.opNF, Lq.op2F, Lq.lift1, Lq.lift2, Lq.liftN, Lq.res, Lq.resAll, Lq.valT, Lq.notT, Lq.andT, Lq.orT, Lq.andE, Lq.orE, Lq.notE, Lq.ifE, Lq.consA, Lq.nilA, Lq.frzE, Lq.lstF, Lq.tupE, Lq.callE, Lq.callBE, Lq.callL, Lq.callNew, Lq.slotted, Lq.datAll, Lq.appE, Lq.popE, Lq.yesT, Lq.wipeR, Lq.backR, Lq.plainC, Lq.nameG, Lq.tupG, Lq.consG, Lq.nilG, Lq.seqI, Lq.rngI1, Lq.rngI2, Lq.enumI, Lq.zipI, Lq.isiE, Lq.slE, Lq.aPart, Lq.noPart, Lq.chainE, Lq.strM, Lq.orF, Lq.R.bind, Lq.R.thnO, Lq.raiseS, Lq.raise0S, Lq.tryS, Lq.hNil, Lq.hAs, Lq.goneS, Lq.enumA, Lq.enumK, Lq.ifF, Lq.permA, Lq.permL, Lq.D.noL, Lq.noLs, Lq.isEx, Lq.fldD, Lq.isErrD, Lq.itemsOf, Lq.onlyB, Lq.isB, Lq.D.flat, Lq.addD, Lq.catF, Lq.subD, Lq.negD, Lq.ltD, Lq.leD, Lq.gtD, Lq.geD, Lq.eqD, Lq.neD, Lq.sameKind, Lq.isD, Lq.isntD, Lq.isNon, Lq.lenD, Lq.isiB, Lq.tyName, Lq.notObj, Lq.D.items?, Lq.fits, L2.atI, L2.ixN]
theorem zip_rise : ∀ (ws : List Str), (zipD (ws.map D.str) ((ws.drop 1).map D.str)).map (fun d => match d with | .tup [.str a, .str b] => D.bl (decide (LtS a b)) | _ => .non) = ((ws.zip (ws.drop 1)).map fun p => decide (LtS p.1 p.2)).map D.bl := fun ws => by
  unfold zipD
  rw [List.zip_map, List.map_map, List.map_map, List.map_map]
  rfl
theorem rising_all : ∀ (ws : List Str), ((ws.zip (ws.drop 1)).map fun p => decide (LtS p.1 p.2)).all id = rising ws
  | [] => rfl
  | [x] => rfl
  | x :: y :: r => by
    have := rising_all (y :: r)
    simp only [List.drop_succ_cons, List.drop_zero, List.zip_cons_cons, List.map_cons, List.all_cons, id] at this ⊢
    rw [rising, ← this]
theorem is_rising_tup {ws : List Str} (hl : ws.length ≤ 1000) : f_is_rising [.tup (ws.map D.str)] = .ok (.bl (rising ws)) := by
  have ec : cutD (.tup (ws.map D.str)) (some 1) none = some (.tup ((ws.drop 1).map D.str)) := by
    show some (D.tup (cutL (ws.map D.str) (some ((1 : Nat) : Int)) none)) = _
    rw [cutL_at, List.map_drop]
  have e : m_is_rising_c1 [.d (.tup (ws.map D.str)), .no, .no] = .ok (((ws.zip (ws.drop 1)).map fun p => decide (LtS p.1 p.2)).map D.bl) [.d (.tup (ws.map D.str)), .no, .no] := by
    have e := compF_m (vs := [1, 2]) (fi := zipI (consA (nameE 0) (consA (slE (nameE 0) (aPart (constE (.int 1))) noPart) nilA))) (gd := tupG 2 (consG (nameG 1) (consG (nameG 2) nilG))) (fe := m_is_rising_e1) (ρ := [.d (.tup (ws.map D.str)), .no, .no]) (ρ0 := [.d (.tup (ws.map D.str)), .no, .no])
      (ds := zipD (ws.map D.str) ((ws.drop 1).map D.str)) (fun d => match d with | .tup [.str a, .str b] => D.bl (decide (LtS a b)) | _ => .non) (by simp [Lq.runF, Lq.runB, Lq.runL, Lq.boxAt, Lq.startR, Lq.seqS, Lq.nextS, Lq.ifS, Lq.asgS, Lq.asgM, Lq.asgG, Lq.retS, Lq.retF, Lq.dropS, Lq.forS, Lq.loopS, Lq.turnS, Lq.putItem, Lq.isMB, Lq.putS1, Lq.parS, Lq.consMd, Lq.consMf', Lq.noErr, Lq.nilM, Lq.setsR, Lq.nameE, Lq.constE, Lq.op1E, Lq.op2E, Lq.opNE, Lq.opNF, Lq.op2F, Lq.lift1, Lq.lift2, Lq.liftN, Lq.res, Lq.resAll, Lq.valT, Lq.notT, Lq.andT, Lq.orT, Lq.andE, Lq.orE, Lq.notE, Lq.ifE, Lq.consA, Lq.nilA, Lq.frzE, Lq.lstF, Lq.tupE, Lq.callE, Lq.callBE, Lq.callL, Lq.callNew, Lq.slotted, Lq.datAll, Lq.appE, Lq.popE, Lq.compF, Lq.compLoop, Lq.compTurn, Lq.yesT, Lq.wipeR, Lq.backR, Lq.plainC, Lq.nameG, Lq.tupG, Lq.consG, Lq.nilG, Lq.seqI, Lq.rngI1, Lq.rngI2, Lq.enumI, Lq.zipI, Lq.isiE, Lq.slE, Lq.aPart, Lq.noPart, Lq.chainE, Lq.strM, Lq.orF, Lq.R.bind, Lq.R.thnO, Lq.raiseS, Lq.raise0S, Lq.tryS, Lq.hNil, Lq.hAs, Lq.goneS, Lq.enumA, Lq.enumK, Lq.ifF, Lq.permA, Lq.permL, Lq.D.noL, Lq.noLs, Lq.isEx, Lq.fldD, Lq.isErrD, Lq.itemsOf, Lq.onlyB, Lq.isB, Lq.D.flat, ec]) rfl (by unfold zipD; simp; omega) (fun d hd => by
        unfold zipD at hd
        rw [List.zip_map, List.map_map] at hd
        obtain ⟨⟨a, b⟩, _, rfl⟩ := List.mem_map.1 hd
        exact ⟨[.d (.tup (ws.map D.str)), .d (.str a), .d (.str b)], rfl, by simp [m_is_rising_e1, Lq.runF, Lq.runB, Lq.runL, Lq.boxAt, Lq.startR, Lq.seqS, Lq.nextS, Lq.ifS, Lq.asgS, Lq.asgM, Lq.asgG, Lq.retS, Lq.retF, Lq.dropS, Lq.forS, Lq.loopS, Lq.turnS, Lq.putItem, Lq.isMB, Lq.putS1, Lq.parS, Lq.consMd, Lq.consMf', Lq.noErr, Lq.nilM, Lq.setsR, Lq.nameE, Lq.constE, Lq.op1E, Lq.op2E, Lq.opNE, Lq.opNF, Lq.op2F, Lq.lift1, Lq.lift2, Lq.liftN, Lq.res, Lq.resAll, Lq.valT, Lq.notT, Lq.andT, Lq.orT, Lq.andE, Lq.orE, Lq.notE, Lq.ifE, Lq.consA, Lq.nilA, Lq.frzE, Lq.lstF, Lq.tupE, Lq.callE, Lq.callBE, Lq.callL, Lq.callNew, Lq.slotted, Lq.datAll, Lq.appE, Lq.popE, Lq.compF, Lq.compLoop, Lq.compTurn, Lq.yesT, Lq.wipeR, Lq.backR, Lq.plainC, Lq.nameG, Lq.tupG, Lq.consG, Lq.nilG, Lq.seqI, Lq.rngI1, Lq.rngI2, Lq.enumI, Lq.zipI, Lq.isiE, Lq.slE, Lq.aPart, Lq.noPart, Lq.chainE, Lq.strM, Lq.orF, Lq.R.bind, Lq.R.thnO, Lq.raiseS, Lq.raise0S, Lq.tryS, Lq.hNil, Lq.hAs, Lq.goneS, Lq.enumA, Lq.enumK, Lq.ifF, Lq.permA, Lq.permL, Lq.D.noL, Lq.noLs, Lq.isEx, Lq.fldD, Lq.isErrD, Lq.itemsOf, Lq.onlyB, Lq.isB, Lq.D.flat, ltD, LtS], rfl⟩)
    rw [zip_rise] at e
    exact e
  have ea : allD [.lst (((ws.zip (ws.drop 1)).map fun p => decide (LtS p.1 p.2)).map D.bl)] = some (.bl (rising ws)) := by
    rw [allD, allOf_map_bl]
    show some (D.bl _) = _
    rw [rising_all]
  generalize ((ws.zip (ws.drop 1)).map fun p => decide (LtS p.1 p.2)).map D.bl = L at e ea
  simp [f_is_rising, m_is_rising, Lq.runF, Lq.runB, Lq.runL, Lq.boxAt, Lq.startR, Lq.seqS, Lq.nextS, Lq.ifS, Lq.asgS, Lq.asgM, Lq.asgG, Lq.retS, Lq.retF, Lq.dropS, Lq.forS, Lq.putItem, Lq.isMB, Lq.putS1, Lq.parS, Lq.consMd, Lq.consMf', Lq.noErr, Lq.nilM, Lq.setsR, Lq.nameE, Lq.constE, Lq.op1E, Lq.op2E, Lq.opNE, Lq.opNF, Lq.op2F, Lq.lift1, Lq.lift2, Lq.liftN, Lq.res, Lq.resAll, Lq.valT, Lq.notT, Lq.andT, Lq.orT, Lq.andE, Lq.orE, Lq.notE, Lq.ifE, Lq.consA, Lq.nilA, Lq.frzE, Lq.lstF, Lq.tupE, Lq.callE, Lq.callBE, Lq.callL, Lq.callNew, Lq.slotted, Lq.datAll, Lq.appE, Lq.popE, Lq.yesT, Lq.wipeR, Lq.backR, Lq.plainC, Lq.nameG, Lq.tupG, Lq.consG, Lq.nilG, Lq.seqI, Lq.rngI1, Lq.rngI2, Lq.enumI, Lq.zipI, Lq.isiE, Lq.slE, Lq.aPart, Lq.noPart, Lq.chainE, Lq.strM, Lq.orF, Lq.R.bind, Lq.R.thnO, Lq.raiseS, Lq.raise0S, Lq.tryS, Lq.hNil, Lq.hAs, Lq.goneS, Lq.enumA, Lq.enumK, Lq.ifF, Lq.permA, Lq.permL, Lq.D.noL, Lq.noLs, Lq.isEx, Lq.fldD, Lq.isErrD, Lq.itemsOf, Lq.onlyB, Lq.isB, Lq.D.flat, Lq.addD, Lq.catF, Lq.subD, Lq.negD, Lq.ltD, Lq.leD, Lq.gtD, Lq.geD, Lq.eqD, Lq.neD, Lq.sameKind, Lq.isD, Lq.isntD, Lq.isNon, Lq.lenD, Lq.isiB, Lq.tyName, Lq.notObj, Lq.D.items?, Lq.fits, L2.atI, L2.ixN, e, ea]
theorem is_share_tup {x : D} {ord ws : List Str} (hx : x.items? = some (ord.map D.str)) (h : ∀ w ∈ ws, Nm w) (hl : ws.length ≤ 1000) : f_is_share [x, .tup (ws.map D.str)] = .ok (.bl (decide ws.Nodup && (rising ws && ws.all fun w => decide (w ∈ ord)))) := by
  have e1 := is_list_tup h hl
  have e2 := is_rising_tup hl
  have e : m_is_share_c1 [.d x, .d (.tup (ws.map D.str)), .no] = .ok ((ws.map fun w => decide (w ∈ ord)).map D.bl) [.d x, .d (.tup (ws.map D.str)), .no] := by
    have e := compF_m (vs := [2]) (fi := seqI (nameE 1)) (gd := nameG 2) (fe := m_is_share_e1) (ρ := [.d x, .d (.tup (ws.map D.str)), .no]) (ρ0 := [.d x, .d (.tup (ws.map D.str)), .no]) (ds := ws.map D.str) (fun d => match d with | .str w => .bl (decide (w ∈ ord)) | _ => .non) rfl rfl (by rw [List.length_map]; omega) (fun d hd => by
      obtain ⟨w, hw, rfl⟩ := List.mem_map.1 hd
      exact ⟨[.d x, .d (.tup (ws.map D.str)), .d (.str w)], rfl, by simp [m_is_share_e1, Lq.runF, Lq.runB, Lq.runL, Lq.boxAt, Lq.startR, Lq.seqS, Lq.nextS, Lq.ifS, Lq.asgS, Lq.asgM, Lq.asgG, Lq.retS, Lq.retF, Lq.dropS, Lq.forS, Lq.loopS, Lq.turnS, Lq.putItem, Lq.isMB, Lq.putS1, Lq.parS, Lq.consMd, Lq.consMf', Lq.noErr, Lq.nilM, Lq.setsR, Lq.nameE, Lq.constE, Lq.op1E, Lq.op2E, Lq.opNE, Lq.opNF, Lq.op2F, Lq.lift1, Lq.lift2, Lq.liftN, Lq.res, Lq.resAll, Lq.valT, Lq.notT, Lq.andT, Lq.orT, Lq.andE, Lq.orE, Lq.notE, Lq.ifE, Lq.consA, Lq.nilA, Lq.frzE, Lq.lstF, Lq.tupE, Lq.callE, Lq.callBE, Lq.callL, Lq.callNew, Lq.slotted, Lq.datAll, Lq.appE, Lq.popE, Lq.compF, Lq.compLoop, Lq.compTurn, Lq.yesT, Lq.wipeR, Lq.backR, Lq.plainC, Lq.nameG, Lq.tupG, Lq.consG, Lq.nilG, Lq.seqI, Lq.rngI1, Lq.rngI2, Lq.enumI, Lq.zipI, Lq.isiE, Lq.slE, Lq.aPart, Lq.noPart, Lq.chainE, Lq.strM, Lq.orF, Lq.R.bind, Lq.R.thnO, Lq.raiseS, Lq.raise0S, Lq.tryS, Lq.hNil, Lq.hAs, Lq.goneS, Lq.enumA, Lq.enumK, Lq.ifF, Lq.permA, Lq.permL, Lq.D.noL, Lq.noLs, Lq.isEx, Lq.fldD, Lq.isErrD, Lq.itemsOf, Lq.onlyB, Lq.isB, Lq.D.flat, in_strs hx], rfl⟩)
    rw [List.map_map] at e
    rw [List.map_map]
    exact e
  have ea : allD [.lst ((ws.map fun w => decide (w ∈ ord)).map D.bl)] = some (.bl (ws.all fun w => decide (w ∈ ord))) := by
    rw [allD, allOf_map_bl]
    show some (D.bl _) = _
    rw [List.all_map]; rfl
  cases hn : decide ws.Nodup with
  | false => simp [f_is_share, m_is_share, Lq.runF, Lq.runB, Lq.runL, Lq.boxAt, Lq.startR, Lq.seqS, Lq.nextS, Lq.ifS, Lq.asgS, Lq.asgM, Lq.asgG, Lq.retS, Lq.retF, Lq.dropS, Lq.forS, Lq.putItem, Lq.isMB, Lq.putS1, Lq.parS, Lq.consMd, Lq.consMf', Lq.noErr, Lq.nilM, Lq.setsR, Lq.nameE, Lq.constE, Lq.op1E, Lq.op2E, Lq.opNE, Lq.opNF, Lq.op2F, Lq.lift1, Lq.lift2, Lq.liftN, Lq.res, Lq.resAll, Lq.valT, Lq.notT, Lq.andT, Lq.orT, Lq.andE, Lq.orE, Lq.notE, Lq.ifE, Lq.consA, Lq.nilA, Lq.frzE, Lq.lstF, Lq.tupE, Lq.callE, Lq.callBE, Lq.callL, Lq.callNew, Lq.slotted, Lq.datAll, Lq.appE, Lq.popE, Lq.yesT, Lq.wipeR, Lq.backR, Lq.plainC, Lq.nameG, Lq.tupG, Lq.consG, Lq.nilG, Lq.seqI, Lq.rngI1, Lq.rngI2, Lq.enumI, Lq.zipI, Lq.isiE, Lq.slE, Lq.aPart, Lq.noPart, Lq.chainE, Lq.strM, Lq.orF, Lq.R.bind, Lq.R.thnO, Lq.raiseS, Lq.raise0S, Lq.tryS, Lq.hNil, Lq.hAs, Lq.goneS, Lq.enumA, Lq.enumK, Lq.ifF, Lq.permA, Lq.permL, Lq.D.noL, Lq.noLs, Lq.isEx, Lq.fldD, Lq.isErrD, Lq.itemsOf, Lq.onlyB, Lq.isB, Lq.D.flat, Lq.addD, Lq.catF, Lq.subD, Lq.negD, Lq.ltD, Lq.leD, Lq.gtD, Lq.geD, Lq.eqD, Lq.neD, Lq.sameKind, Lq.isD, Lq.isntD, Lq.isNon, Lq.lenD, Lq.isiB, Lq.tyName, Lq.notObj, Lq.D.items?, Lq.fits, L2.atI, L2.ixN, e1, hn]
  | true =>
    cases hr : rising ws with
    | false => simp [f_is_share, m_is_share, Lq.runF, Lq.runB, Lq.runL, Lq.boxAt, Lq.startR, Lq.seqS, Lq.nextS, Lq.ifS, Lq.asgS, Lq.asgM, Lq.asgG, Lq.retS, Lq.retF, Lq.dropS, Lq.forS, Lq.putItem, Lq.isMB, Lq.putS1, Lq.parS, Lq.consMd, Lq.consMf', Lq.noErr, Lq.nilM, Lq.setsR, Lq.nameE, Lq.constE, Lq.op1E, Lq.op2E, Lq.opNE, Lq.opNF, Lq.op2F, Lq.lift1, Lq.lift2, Lq.liftN, Lq.res, Lq.resAll, Lq.valT, Lq.notT, Lq.andT, Lq.orT, Lq.andE, Lq.orE, Lq.notE, Lq.ifE, Lq.consA, Lq.nilA, Lq.frzE, Lq.lstF, Lq.tupE, Lq.callE, Lq.callBE, Lq.callL, Lq.callNew, Lq.slotted, Lq.datAll, Lq.appE, Lq.popE, Lq.yesT, Lq.wipeR, Lq.backR, Lq.plainC, Lq.nameG, Lq.tupG, Lq.consG, Lq.nilG, Lq.seqI, Lq.rngI1, Lq.rngI2, Lq.enumI, Lq.zipI, Lq.isiE, Lq.slE, Lq.aPart, Lq.noPart, Lq.chainE, Lq.strM, Lq.orF, Lq.R.bind, Lq.R.thnO, Lq.raiseS, Lq.raise0S, Lq.tryS, Lq.hNil, Lq.hAs, Lq.goneS, Lq.enumA, Lq.enumK, Lq.ifF, Lq.permA, Lq.permL, Lq.D.noL, Lq.noLs, Lq.isEx, Lq.fldD, Lq.isErrD, Lq.itemsOf, Lq.onlyB, Lq.isB, Lq.D.flat, Lq.addD, Lq.catF, Lq.subD, Lq.negD, Lq.ltD, Lq.leD, Lq.gtD, Lq.geD, Lq.eqD, Lq.neD, Lq.sameKind, Lq.isD, Lq.isntD, Lq.isNon, Lq.lenD, Lq.isiB, Lq.tyName, Lq.notObj, Lq.D.items?, Lq.fits, L2.atI, L2.ixN, e1, hn, e2, hr]
    | true =>
      generalize (ws.map fun w => decide (w ∈ ord)).map D.bl = L at e ea
      simp [f_is_share, m_is_share, Lq.runF, Lq.runB, Lq.runL, Lq.boxAt, Lq.startR, Lq.seqS, Lq.nextS, Lq.ifS, Lq.asgS, Lq.asgM, Lq.asgG, Lq.retS, Lq.retF, Lq.dropS, Lq.forS, Lq.putItem, Lq.isMB, Lq.putS1, Lq.parS, Lq.consMd, Lq.consMf', Lq.noErr, Lq.nilM, Lq.setsR, Lq.nameE, Lq.constE, Lq.op1E, Lq.op2E, Lq.opNE, Lq.opNF, Lq.op2F, Lq.lift1, Lq.lift2, Lq.liftN, Lq.res, Lq.resAll, Lq.valT, Lq.notT, Lq.andT, Lq.orT, Lq.andE, Lq.orE, Lq.notE, Lq.ifE, Lq.consA, Lq.nilA, Lq.frzE, Lq.lstF, Lq.tupE, Lq.callE, Lq.callBE, Lq.callL, Lq.callNew, Lq.slotted, Lq.datAll, Lq.appE, Lq.popE, Lq.yesT, Lq.wipeR, Lq.backR, Lq.plainC, Lq.nameG, Lq.tupG, Lq.consG, Lq.nilG, Lq.seqI, Lq.rngI1, Lq.rngI2, Lq.enumI, Lq.zipI, Lq.isiE, Lq.slE, Lq.aPart, Lq.noPart, Lq.chainE, Lq.strM, Lq.orF, Lq.R.bind, Lq.R.thnO, Lq.raiseS, Lq.raise0S, Lq.tryS, Lq.hNil, Lq.hAs, Lq.goneS, Lq.enumA, Lq.enumK, Lq.ifF, Lq.permA, Lq.permL, Lq.D.noL, Lq.noLs, Lq.isEx, Lq.fldD, Lq.isErrD, Lq.itemsOf, Lq.onlyB, Lq.isB, Lq.D.flat, Lq.addD, Lq.catF, Lq.subD, Lq.negD, Lq.ltD, Lq.leD, Lq.gtD, Lq.geD, Lq.eqD, Lq.neD, Lq.sameKind, Lq.isD, Lq.isntD, Lq.isNon, Lq.lenD, Lq.isiB, Lq.tyName, Lq.notObj, Lq.D.items?, Lq.fits, L2.atI, L2.ixN, e1, hn, e2, hr, e, ea]
theorem is_share_lst {x : D} {xs : List D} : f_is_share [x, .lst xs] = .ok (.bl false) := by
  simp [f_is_share, m_is_share, Lq.runF, Lq.runB, Lq.runL, Lq.boxAt, Lq.startR, Lq.seqS, Lq.nextS, Lq.ifS, Lq.asgS, Lq.asgM, Lq.asgG, Lq.retS, Lq.retF, Lq.dropS, Lq.forS, Lq.putItem, Lq.isMB, Lq.putS1, Lq.parS, Lq.consMd, Lq.consMf', Lq.noErr, Lq.nilM, Lq.setsR, Lq.nameE, Lq.constE, Lq.op1E, Lq.op2E, Lq.opNE, Lq.opNF, Lq.op2F, Lq.lift1, Lq.lift2, Lq.liftN, Lq.res, Lq.resAll, Lq.valT, Lq.notT, Lq.andT, Lq.orT, Lq.andE, Lq.orE, Lq.notE, Lq.ifE, Lq.consA, Lq.nilA, Lq.frzE, Lq.lstF, Lq.tupE, Lq.callE, Lq.callBE, Lq.callL, Lq.callNew, Lq.slotted, Lq.datAll, Lq.appE, Lq.popE, Lq.yesT, Lq.wipeR, Lq.backR, Lq.plainC, Lq.nameG, Lq.tupG, Lq.consG, Lq.nilG, Lq.seqI, Lq.rngI1, Lq.rngI2, Lq.enumI, Lq.zipI, Lq.isiE, Lq.slE, Lq.aPart, Lq.noPart, Lq.chainE, Lq.strM, Lq.orF, Lq.R.bind, Lq.R.thnO, Lq.raiseS, Lq.raise0S, Lq.tryS, Lq.hNil, Lq.hAs, Lq.goneS, Lq.enumA, Lq.enumK, Lq.ifF, Lq.permA, Lq.permL, Lq.D.noL, Lq.noLs, Lq.isEx, Lq.fldD, Lq.isErrD, Lq.itemsOf, Lq.onlyB, Lq.isB, Lq.D.flat, Lq.addD, Lq.catF, Lq.subD, Lq.negD, Lq.ltD, Lq.leD, Lq.gtD, Lq.geD, Lq.eqD, Lq.neD, Lq.sameKind, Lq.isD, Lq.isntD, Lq.isNon, Lq.lenD, Lq.isiB, Lq.tyName, Lq.notObj, Lq.D.items?, Lq.fits, L2.atI, L2.ixN, is_list_lst]
end Lw
namespace Lw
open PySem Lq
/-! ### things on a list -/
section
variable {x y : D} {ord sh : List Str}
theorem check_on_ok (hx : x.items? = some (ord.map D.str)) (hy : y.items? = some (sh.map D.str)) (h : ∀ w ∈ sh, w ∈ ord) : f_check_on [x, y] = .ok .non := by
  obtain ⟨ρ', e, -⟩ := loop_inv (body := turnS (nameG 2) m_check_on_b1) (fun _ ρ => ∃ c, ρ = [.d x, .d y, c]) (sh.map D.str) 0 [.d x, .d y, .no] ⟨_, rfl⟩ (fun j d ρ hj hi => by
    obtain ⟨c, rfl⟩ := hi
    obtain ⟨w, hq, rfl⟩ := strs_at hj
    have hw := h w (List.mem_of_getElem? hq)
    exact ⟨[.d x, .d y, .d (.str w)], by simp [m_check_on_b1, Lq.runF, Lq.runB, Lq.runL, Lq.boxAt, Lq.startR, Lq.seqS, Lq.nextS, Lq.ifS, Lq.asgS, Lq.asgM, Lq.asgG, Lq.retS, Lq.retF, Lq.dropS, Lq.forS, Lq.putItem, Lq.isMB, Lq.putS1, Lq.parS, Lq.consMd, Lq.consMf', Lq.noErr, Lq.nilM, Lq.setsR, Lq.nameE, Lq.constE, Lq.op1E, Lq.op2E, Lq.opNE, Lq.opNF, Lq.op2F, Lq.lift1, Lq.lift2, Lq.liftN, Lq.res, Lq.resAll, Lq.valT, Lq.notT, Lq.andT, Lq.orT, Lq.andE, Lq.orE, Lq.notE, Lq.ifE, Lq.consA, Lq.nilA, Lq.frzE, Lq.lstF, Lq.tupE, Lq.callE, Lq.callBE, Lq.callL, Lq.callNew, Lq.slotted, Lq.datAll, Lq.appE, Lq.popE, Lq.yesT, Lq.wipeR, Lq.backR, Lq.plainC, Lq.nameG, Lq.tupG, Lq.consG, Lq.nilG, Lq.seqI, Lq.rngI1, Lq.rngI2, Lq.enumI, Lq.zipI, Lq.isiE, Lq.slE, Lq.aPart, Lq.noPart, Lq.chainE, Lq.strM, Lq.orF, Lq.R.bind, Lq.R.thnO, Lq.raiseS, Lq.raise0S, Lq.tryS, Lq.hNil, Lq.hAs, Lq.goneS, Lq.enumA, Lq.enumK, Lq.ifF, Lq.permA, Lq.permL, Lq.D.noL, Lq.noLs, Lq.isEx, Lq.fldD, Lq.isErrD, Lq.itemsOf, Lq.onlyB, Lq.isB, Lq.D.flat, Lq.addD, Lq.catF, Lq.subD, Lq.negD, Lq.ltD, Lq.leD, Lq.gtD, Lq.geD, Lq.eqD, Lq.neD, Lq.sameKind, Lq.isD, Lq.isntD, Lq.isNon, Lq.lenD, Lq.isiB, Lq.tyName, Lq.notObj, Lq.D.items?, Lq.fits, L2.atI, L2.ixN, Lq.turnS, nin_strs hx, hw], _, rfl⟩)
  have es := items_seq (i := 1) (ρ := [.d x, .d y, .no]) hy rfl
  simp [f_check_on, m_check_on, m_check_on_l1, Lq.runF, Lq.startR, Lq.forS, Lq.R.thnO, es, e]
theorem check_on_err {l1 l2 : List Str} {w : Str} (hx : x.items? = some (ord.map D.str)) (hy : y.items? = some (sh.map D.str)) (hs : sh = l1 ++ w :: l2) (h : ∀ z ∈ l1, z ∈ ord) (hw : w ∉ ord) : f_check_on [x, y] = .err ⟨3, [.str w]⟩ := by
  obtain ⟨ρ', e, c, rfl⟩ := loop_pre (body := turnS (nameG 2) m_check_on_b1) (fun _ ρ => ∃ c, ρ = [.d x, .d y, c]) ((w :: l2).map D.str) (l1.map D.str) 0 [.d x, .d y, .no] ⟨_, rfl⟩ (fun j d ρ hj hi => by
    obtain ⟨c, rfl⟩ := hi
    obtain ⟨w, hq, rfl⟩ := strs_at hj
    have hw := h w (List.mem_of_getElem? hq)
    exact ⟨[.d x, .d y, .d (.str w)], .inl (by simp [m_check_on_b1, Lq.runF, Lq.runB, Lq.runL, Lq.boxAt, Lq.startR, Lq.seqS, Lq.nextS, Lq.ifS, Lq.asgS, Lq.asgM, Lq.asgG, Lq.retS, Lq.retF, Lq.dropS, Lq.forS, Lq.putItem, Lq.isMB, Lq.putS1, Lq.parS, Lq.consMd, Lq.consMf', Lq.noErr, Lq.nilM, Lq.setsR, Lq.nameE, Lq.constE, Lq.op1E, Lq.op2E, Lq.opNE, Lq.opNF, Lq.op2F, Lq.lift1, Lq.lift2, Lq.liftN, Lq.res, Lq.resAll, Lq.valT, Lq.notT, Lq.andT, Lq.orT, Lq.andE, Lq.orE, Lq.notE, Lq.ifE, Lq.consA, Lq.nilA, Lq.frzE, Lq.lstF, Lq.tupE, Lq.callE, Lq.callBE, Lq.callL, Lq.callNew, Lq.slotted, Lq.datAll, Lq.appE, Lq.popE, Lq.yesT, Lq.wipeR, Lq.backR, Lq.plainC, Lq.nameG, Lq.tupG, Lq.consG, Lq.nilG, Lq.seqI, Lq.rngI1, Lq.rngI2, Lq.enumI, Lq.zipI, Lq.isiE, Lq.slE, Lq.aPart, Lq.noPart, Lq.chainE, Lq.strM, Lq.orF, Lq.R.bind, Lq.R.thnO, Lq.raiseS, Lq.raise0S, Lq.tryS, Lq.hNil, Lq.hAs, Lq.goneS, Lq.enumA, Lq.enumK, Lq.ifF, Lq.permA, Lq.permL, Lq.D.noL, Lq.noLs, Lq.isEx, Lq.fldD, Lq.isErrD, Lq.itemsOf, Lq.onlyB, Lq.isB, Lq.D.flat, Lq.addD, Lq.catF, Lq.subD, Lq.negD, Lq.ltD, Lq.leD, Lq.gtD, Lq.geD, Lq.eqD, Lq.neD, Lq.sameKind, Lq.isD, Lq.isntD, Lq.isNon, Lq.lenD, Lq.isiB, Lq.tyName, Lq.notObj, Lq.D.items?, Lq.fits, L2.atI, L2.ixN, Lq.turnS, nin_strs hx, hw]), _, rfl⟩)
  rw [← List.map_append, ← hs, List.map_cons, loopS] at e
  have eb : turnS (nameG 2) m_check_on_b1 (.str w) [.d x, .d y, c] = .err ⟨3, [.str w]⟩ [.d x, .d y, .d (.str w)] := by simp [m_check_on_b1, Lq.runF, Lq.runB, Lq.runL, Lq.boxAt, Lq.startR, Lq.seqS, Lq.nextS, Lq.ifS, Lq.asgS, Lq.asgM, Lq.asgG, Lq.retS, Lq.retF, Lq.dropS, Lq.forS, Lq.putItem, Lq.isMB, Lq.putS1, Lq.parS, Lq.consMd, Lq.consMf', Lq.noErr, Lq.nilM, Lq.setsR, Lq.nameE, Lq.constE, Lq.op1E, Lq.op2E, Lq.opNE, Lq.opNF, Lq.op2F, Lq.lift1, Lq.lift2, Lq.liftN, Lq.res, Lq.resAll, Lq.valT, Lq.notT, Lq.andT, Lq.orT, Lq.andE, Lq.orE, Lq.notE, Lq.ifE, Lq.consA, Lq.nilA, Lq.frzE, Lq.lstF, Lq.tupE, Lq.callE, Lq.callBE, Lq.callL, Lq.callNew, Lq.slotted, Lq.datAll, Lq.appE, Lq.popE, Lq.yesT, Lq.wipeR, Lq.backR, Lq.plainC, Lq.nameG, Lq.tupG, Lq.consG, Lq.nilG, Lq.seqI, Lq.rngI1, Lq.rngI2, Lq.enumI, Lq.zipI, Lq.isiE, Lq.slE, Lq.aPart, Lq.noPart, Lq.chainE, Lq.strM, Lq.orF, Lq.R.bind, Lq.R.thnO, Lq.raiseS, Lq.raise0S, Lq.tryS, Lq.hNil, Lq.hAs, Lq.goneS, Lq.enumA, Lq.enumK, Lq.ifF, Lq.permA, Lq.permL, Lq.D.noL, Lq.noLs, Lq.isEx, Lq.fldD, Lq.isErrD, Lq.itemsOf, Lq.onlyB, Lq.isB, Lq.D.flat, Lq.addD, Lq.catF, Lq.subD, Lq.negD, Lq.ltD, Lq.leD, Lq.gtD, Lq.geD, Lq.eqD, Lq.neD, Lq.sameKind, Lq.isD, Lq.isntD, Lq.isNon, Lq.lenD, Lq.isiB, Lq.tyName, Lq.notObj, Lq.D.items?, Lq.fits, L2.atI, L2.ixN, Lq.turnS, nin_strs hx, hw]
  rw [eb] at e
  have es := items_seq (i := 1) (ρ := [.d x, .d y, .no]) hy rfl
  simp [f_check_on, m_check_on, m_check_on_l1, Lq.runF, Lq.startR, Lq.forS, Lq.R.thnO, es, e]
theorem by_list_ok (hx : x.items? = some (ord.map D.str)) (hy : y.items? = some (sh.map D.str)) (hl : ord.length ≤ 1000) (h : ∀ w ∈ sh, w ∈ ord) : f_by_list [x, y] = .ok (.tup ((ord.filter fun w => decide (w ∈ sh)).map D.str)) := by
  have e : m_by_list_c1 [.d x, .d y, .no] = .ok ((ord.filter fun w => decide (w ∈ sh)).map D.str) [.d x, .d y, .no] := by
    have e := compF_fm (vs := [2]) (fi := seqI (nameE 0)) (gd := nameG 2) (ft := m_by_list_t1) (fe := m_by_list_e1) (ρ := [.d x, .d y, .no]) (ρ0 := [.d x, .d y, .no]) (ds := ord.map D.str) (onS fun w => decide (w ∈ sh)) id (items_seq hx rfl) rfl (by rw [List.length_map]; omega) (fun d hd => by
      obtain ⟨w, hw, rfl⟩ := List.mem_map.1 hd
      exact ⟨[.d x, .d y, .d (.str w)], rfl, by simp [m_by_list_t1, Lq.runF, Lq.runB, Lq.runL, Lq.boxAt, Lq.startR, Lq.seqS, Lq.nextS, Lq.ifS, Lq.asgS, Lq.asgM, Lq.asgG, Lq.retS, Lq.retF, Lq.dropS, Lq.forS, Lq.putItem, Lq.isMB, Lq.putS1, Lq.parS, Lq.consMd, Lq.consMf', Lq.noErr, Lq.nilM, Lq.setsR, Lq.nameE, Lq.constE, Lq.op1E, Lq.op2E, Lq.opNE, Lq.opNF, Lq.op2F, Lq.lift1, Lq.lift2, Lq.liftN, Lq.res, Lq.resAll, Lq.valT, Lq.notT, Lq.andT, Lq.orT, Lq.andE, Lq.orE, Lq.notE, Lq.ifE, Lq.consA, Lq.nilA, Lq.frzE, Lq.lstF, Lq.tupE, Lq.callE, Lq.callBE, Lq.callL, Lq.callNew, Lq.slotted, Lq.datAll, Lq.appE, Lq.popE, Lq.yesT, Lq.wipeR, Lq.backR, Lq.plainC, Lq.nameG, Lq.tupG, Lq.consG, Lq.nilG, Lq.seqI, Lq.rngI1, Lq.rngI2, Lq.enumI, Lq.zipI, Lq.isiE, Lq.slE, Lq.aPart, Lq.noPart, Lq.chainE, Lq.strM, Lq.orF, Lq.R.bind, Lq.R.thnO, Lq.raiseS, Lq.raise0S, Lq.tryS, Lq.hNil, Lq.hAs, Lq.goneS, Lq.enumA, Lq.enumK, Lq.ifF, Lq.permA, Lq.permL, Lq.D.noL, Lq.noLs, Lq.isEx, Lq.fldD, Lq.isErrD, Lq.itemsOf, Lq.onlyB, Lq.isB, Lq.D.flat, Lq.addD, Lq.catF, Lq.subD, Lq.negD, Lq.ltD, Lq.leD, Lq.gtD, Lq.geD, Lq.eqD, Lq.neD, Lq.sameKind, Lq.isD, Lq.isntD, Lq.isNon, Lq.lenD, Lq.isiB, Lq.tyName, Lq.notObj, Lq.D.items?, Lq.fits, L2.atI, L2.ixN, in_strs hy, onS], fun _ => rfl, rfl⟩)
    rw [filter_onS, List.map_id] at e
    exact e
  generalize (ord.filter fun w => decide (w ∈ sh)).map D.str = L at e
  simp [f_by_list, m_by_list, Lq.runF, Lq.runB, Lq.runL, Lq.boxAt, Lq.startR, Lq.seqS, Lq.nextS, Lq.ifS, Lq.asgS, Lq.asgM, Lq.asgG, Lq.retS, Lq.retF, Lq.dropS, Lq.forS, Lq.putItem, Lq.isMB, Lq.putS1, Lq.parS, Lq.consMd, Lq.consMf', Lq.noErr, Lq.nilM, Lq.setsR, Lq.nameE, Lq.constE, Lq.op1E, Lq.op2E, Lq.opNE, Lq.opNF, Lq.op2F, Lq.lift1, Lq.lift2, Lq.liftN, Lq.res, Lq.resAll, Lq.valT, Lq.notT, Lq.andT, Lq.orT, Lq.andE, Lq.orE, Lq.notE, Lq.ifE, Lq.consA, Lq.nilA, Lq.frzE, Lq.lstF, Lq.tupE, Lq.callE, Lq.callBE, Lq.callL, Lq.callNew, Lq.slotted, Lq.datAll, Lq.appE, Lq.popE, Lq.yesT, Lq.wipeR, Lq.backR, Lq.plainC, Lq.nameG, Lq.tupG, Lq.consG, Lq.nilG, Lq.seqI, Lq.rngI1, Lq.rngI2, Lq.enumI, Lq.zipI, Lq.isiE, Lq.slE, Lq.aPart, Lq.noPart, Lq.chainE, Lq.strM, Lq.orF, Lq.R.bind, Lq.R.thnO, Lq.raiseS, Lq.raise0S, Lq.tryS, Lq.hNil, Lq.hAs, Lq.goneS, Lq.enumA, Lq.enumK, Lq.ifF, Lq.permA, Lq.permL, Lq.D.noL, Lq.noLs, Lq.isEx, Lq.fldD, Lq.isErrD, Lq.itemsOf, Lq.onlyB, Lq.isB, Lq.D.flat, Lq.addD, Lq.catF, Lq.subD, Lq.negD, Lq.ltD, Lq.leD, Lq.gtD, Lq.geD, Lq.eqD, Lq.neD, Lq.sameKind, Lq.isD, Lq.isntD, Lq.isNon, Lq.lenD, Lq.isiB, Lq.tyName, Lq.notObj, Lq.D.items?, Lq.fits, L2.atI, L2.ixN, check_on_ok hx hy h, e, Lq.tupleD]
theorem by_list_err {w : Str} (hc : f_check_on [x, y] = .err ⟨3, [.str w]⟩) : f_by_list [x, y] = .err ⟨3, [.str w]⟩ := by
  simp [f_by_list, m_by_list, Lq.runF, Lq.runB, Lq.runL, Lq.boxAt, Lq.startR, Lq.seqS, Lq.nextS, Lq.ifS, Lq.asgS, Lq.asgM, Lq.asgG, Lq.retS, Lq.retF, Lq.dropS, Lq.forS, Lq.putItem, Lq.isMB, Lq.putS1, Lq.parS, Lq.consMd, Lq.consMf', Lq.noErr, Lq.nilM, Lq.setsR, Lq.nameE, Lq.constE, Lq.op1E, Lq.op2E, Lq.opNE, Lq.opNF, Lq.op2F, Lq.lift1, Lq.lift2, Lq.liftN, Lq.res, Lq.resAll, Lq.valT, Lq.notT, Lq.andT, Lq.orT, Lq.andE, Lq.orE, Lq.notE, Lq.ifE, Lq.consA, Lq.nilA, Lq.frzE, Lq.lstF, Lq.tupE, Lq.callE, Lq.callBE, Lq.callL, Lq.callNew, Lq.slotted, Lq.datAll, Lq.appE, Lq.popE, Lq.yesT, Lq.wipeR, Lq.backR, Lq.plainC, Lq.nameG, Lq.tupG, Lq.consG, Lq.nilG, Lq.seqI, Lq.rngI1, Lq.rngI2, Lq.enumI, Lq.zipI, Lq.isiE, Lq.slE, Lq.aPart, Lq.noPart, Lq.chainE, Lq.strM, Lq.orF, Lq.R.bind, Lq.R.thnO, Lq.raiseS, Lq.raise0S, Lq.tryS, Lq.hNil, Lq.hAs, Lq.goneS, Lq.enumA, Lq.enumK, Lq.ifF, Lq.permA, Lq.permL, Lq.D.noL, Lq.noLs, Lq.isEx, Lq.fldD, Lq.isErrD, Lq.itemsOf, Lq.onlyB, Lq.isB, Lq.D.flat, Lq.addD, Lq.catF, Lq.subD, Lq.negD, Lq.ltD, Lq.leD, Lq.gtD, Lq.geD, Lq.eqD, Lq.neD, Lq.sameKind, Lq.isD, Lq.isntD, Lq.isNon, Lq.lenD, Lq.isiB, Lq.tyName, Lq.notObj, Lq.D.items?, Lq.fits, L2.atI, L2.ixN, hc]
def placesL (ord sh : List Str) : List Int := (ord.zipIdx.filter fun p => decide (p.1 ∈ sh)).map fun p => (p.2 : Int) + 1
theorem places_on_ok (hx : x.items? = some (ord.map D.str)) (hy : y.items? = some (sh.map D.str)) (hl : ord.length ≤ 1000) (h : ∀ w ∈ sh, w ∈ ord) : f_places_on [x, y] = .ok (.tup ((placesL ord sh).map D.int)) := by
  have e : m_places_on_c1 [.d x, .d y, .no, .no] = .ok ((placesL ord sh).map D.int) [.d x, .d y, .no, .no] := by
    have e := compF_fm (vs := [2, 3]) (fi := enumA (consA (nameE 0) nilA)) (gd := tupG 2 (consG (nameG 2) (consG (nameG 3) nilG))) (ft := m_places_on_t1) (fe := m_places_on_e1) (ρ := [.d x, .d y, .no, .no]) (ρ0 := [.d x, .d y, .no, .no]) (ds := ord.zipIdx.map fun p => D.tup [.int (p.2 : Nat), .str p.1])
      (fun d => match d with | .tup [_, .str w] => decide (w ∈ sh) | _ => false) (fun d => match d with | .tup [.int k, _] => .int (k + 1) | _ => .non) (by rw [items_enum hx rfl, enum_strs]) rfl (by rw [List.length_map, List.length_zipIdx]; omega) (fun d hd => by
        obtain ⟨⟨w, k⟩, hw, rfl⟩ := List.mem_map.1 hd
        exact ⟨[.d x, .d y, .d (.int k), .d (.str w)], rfl, by simp [m_places_on_t1, Lq.runF, Lq.runB, Lq.runL, Lq.boxAt, Lq.startR, Lq.seqS, Lq.nextS, Lq.ifS, Lq.asgS, Lq.asgM, Lq.asgG, Lq.retS, Lq.retF, Lq.dropS, Lq.forS, Lq.putItem, Lq.isMB, Lq.putS1, Lq.parS, Lq.consMd, Lq.consMf', Lq.noErr, Lq.nilM, Lq.setsR, Lq.nameE, Lq.constE, Lq.op1E, Lq.op2E, Lq.opNE, Lq.opNF, Lq.op2F, Lq.lift1, Lq.lift2, Lq.liftN, Lq.res, Lq.resAll, Lq.valT, Lq.notT, Lq.andT, Lq.orT, Lq.andE, Lq.orE, Lq.notE, Lq.ifE, Lq.consA, Lq.nilA, Lq.frzE, Lq.lstF, Lq.tupE, Lq.callE, Lq.callBE, Lq.callL, Lq.callNew, Lq.slotted, Lq.datAll, Lq.appE, Lq.popE, Lq.yesT, Lq.wipeR, Lq.backR, Lq.plainC, Lq.nameG, Lq.tupG, Lq.consG, Lq.nilG, Lq.seqI, Lq.rngI1, Lq.rngI2, Lq.enumI, Lq.zipI, Lq.isiE, Lq.slE, Lq.aPart, Lq.noPart, Lq.chainE, Lq.strM, Lq.orF, Lq.R.bind, Lq.R.thnO, Lq.raiseS, Lq.raise0S, Lq.tryS, Lq.hNil, Lq.hAs, Lq.goneS, Lq.enumA, Lq.enumK, Lq.ifF, Lq.permA, Lq.permL, Lq.D.noL, Lq.noLs, Lq.isEx, Lq.fldD, Lq.isErrD, Lq.itemsOf, Lq.onlyB, Lq.isB, Lq.D.flat, Lq.addD, Lq.catF, Lq.subD, Lq.negD, Lq.ltD, Lq.leD, Lq.gtD, Lq.geD, Lq.eqD, Lq.neD, Lq.sameKind, Lq.isD, Lq.isntD, Lq.isNon, Lq.lenD, Lq.isiB, Lq.tyName, Lq.notObj, Lq.D.items?, Lq.fits, L2.atI, L2.ixN, in_strs hy], fun _ => by simp [m_places_on_e1, Lq.runF, Lq.runB, Lq.runL, Lq.boxAt, Lq.startR, Lq.seqS, Lq.nextS, Lq.ifS, Lq.asgS, Lq.asgM, Lq.asgG, Lq.retS, Lq.retF, Lq.dropS, Lq.forS, Lq.putItem, Lq.isMB, Lq.putS1, Lq.parS, Lq.consMd, Lq.consMf', Lq.noErr, Lq.nilM, Lq.setsR, Lq.nameE, Lq.constE, Lq.op1E, Lq.op2E, Lq.opNE, Lq.opNF, Lq.op2F, Lq.lift1, Lq.lift2, Lq.liftN, Lq.res, Lq.resAll, Lq.valT, Lq.notT, Lq.andT, Lq.orT, Lq.andE, Lq.orE, Lq.notE, Lq.ifE, Lq.consA, Lq.nilA, Lq.frzE, Lq.lstF, Lq.tupE, Lq.callE, Lq.callBE, Lq.callL, Lq.callNew, Lq.slotted, Lq.datAll, Lq.appE, Lq.popE, Lq.yesT, Lq.wipeR, Lq.backR, Lq.plainC, Lq.nameG, Lq.tupG, Lq.consG, Lq.nilG, Lq.seqI, Lq.rngI1, Lq.rngI2, Lq.enumI, Lq.zipI, Lq.isiE, Lq.slE, Lq.aPart, Lq.noPart, Lq.chainE, Lq.strM, Lq.orF, Lq.R.bind, Lq.R.thnO, Lq.raiseS, Lq.raise0S, Lq.tryS, Lq.hNil, Lq.hAs, Lq.goneS, Lq.enumA, Lq.enumK, Lq.ifF, Lq.permA, Lq.permL, Lq.D.noL, Lq.noLs, Lq.isEx, Lq.fldD, Lq.isErrD, Lq.itemsOf, Lq.onlyB, Lq.isB, Lq.D.flat, Lq.addD, Lq.catF, Lq.subD, Lq.negD, Lq.ltD, Lq.leD, Lq.gtD, Lq.geD, Lq.eqD, Lq.neD, Lq.sameKind, Lq.isD, Lq.isntD, Lq.isNon, Lq.lenD, Lq.isiB, Lq.tyName, Lq.notObj, Lq.D.items?, Lq.fits, L2.atI, L2.ixN], rfl⟩)
    rw [List.filter_map, List.map_map] at e
    rw [placesL, List.map_map]
    exact e
  generalize (placesL ord sh).map D.int = L at e
  simp [f_places_on, m_places_on, Lq.runF, Lq.runB, Lq.runL, Lq.boxAt, Lq.startR, Lq.seqS, Lq.nextS, Lq.ifS, Lq.asgS, Lq.asgM, Lq.asgG, Lq.retS, Lq.retF, Lq.dropS, Lq.forS, Lq.putItem, Lq.isMB, Lq.putS1, Lq.parS, Lq.consMd, Lq.consMf', Lq.noErr, Lq.nilM, Lq.setsR, Lq.nameE, Lq.constE, Lq.op1E, Lq.op2E, Lq.opNE, Lq.opNF, Lq.op2F, Lq.lift1, Lq.lift2, Lq.liftN, Lq.res, Lq.resAll, Lq.valT, Lq.notT, Lq.andT, Lq.orT, Lq.andE, Lq.orE, Lq.notE, Lq.ifE, Lq.consA, Lq.nilA, Lq.frzE, Lq.lstF, Lq.tupE, Lq.callE, Lq.callBE, Lq.callL, Lq.callNew, Lq.slotted, Lq.datAll, Lq.appE, Lq.popE, Lq.yesT, Lq.wipeR, Lq.backR, Lq.plainC, Lq.nameG, Lq.tupG, Lq.consG, Lq.nilG, Lq.seqI, Lq.rngI1, Lq.rngI2, Lq.enumI, Lq.zipI, Lq.isiE, Lq.slE, Lq.aPart, Lq.noPart, Lq.chainE, Lq.strM, Lq.orF, Lq.R.bind, Lq.R.thnO, Lq.raiseS, Lq.raise0S, Lq.tryS, Lq.hNil, Lq.hAs, Lq.goneS, Lq.enumA, Lq.enumK, Lq.ifF, Lq.permA, Lq.permL, Lq.D.noL, Lq.noLs, Lq.isEx, Lq.fldD, Lq.isErrD, Lq.itemsOf, Lq.onlyB, Lq.isB, Lq.D.flat, Lq.addD, Lq.catF, Lq.subD, Lq.negD, Lq.ltD, Lq.leD, Lq.gtD, Lq.geD, Lq.eqD, Lq.neD, Lq.sameKind, Lq.isD, Lq.isntD, Lq.isNon, Lq.lenD, Lq.isiB, Lq.tyName, Lq.notObj, Lq.D.items?, Lq.fits, L2.atI, L2.ixN, check_on_ok hx hy h, e, Lq.tupleD]
theorem places_on_err {w : Str} (hc : f_check_on [x, y] = .err ⟨3, [.str w]⟩) : f_places_on [x, y] = .err ⟨3, [.str w]⟩ := by
  simp [f_places_on, m_places_on, Lq.runF, Lq.runB, Lq.runL, Lq.boxAt, Lq.startR, Lq.seqS, Lq.nextS, Lq.ifS, Lq.asgS, Lq.asgM, Lq.asgG, Lq.retS, Lq.retF, Lq.dropS, Lq.forS, Lq.putItem, Lq.isMB, Lq.putS1, Lq.parS, Lq.consMd, Lq.consMf', Lq.noErr, Lq.nilM, Lq.setsR, Lq.nameE, Lq.constE, Lq.op1E, Lq.op2E, Lq.opNE, Lq.opNF, Lq.op2F, Lq.lift1, Lq.lift2, Lq.liftN, Lq.res, Lq.resAll, Lq.valT, Lq.notT, Lq.andT, Lq.orT, Lq.andE, Lq.orE, Lq.notE, Lq.ifE, Lq.consA, Lq.nilA, Lq.frzE, Lq.lstF, Lq.tupE, Lq.callE, Lq.callBE, Lq.callL, Lq.callNew, Lq.slotted, Lq.datAll, Lq.appE, Lq.popE, Lq.yesT, Lq.wipeR, Lq.backR, Lq.plainC, Lq.nameG, Lq.tupG, Lq.consG, Lq.nilG, Lq.seqI, Lq.rngI1, Lq.rngI2, Lq.enumI, Lq.zipI, Lq.isiE, Lq.slE, Lq.aPart, Lq.noPart, Lq.chainE, Lq.strM, Lq.orF, Lq.R.bind, Lq.R.thnO, Lq.raiseS, Lq.raise0S, Lq.tryS, Lq.hNil, Lq.hAs, Lq.goneS, Lq.enumA, Lq.enumK, Lq.ifF, Lq.permA, Lq.permL, Lq.D.noL, Lq.noLs, Lq.isEx, Lq.fldD, Lq.isErrD, Lq.itemsOf, Lq.onlyB, Lq.isB, Lq.D.flat, Lq.addD, Lq.catF, Lq.subD, Lq.negD, Lq.ltD, Lq.leD, Lq.gtD, Lq.geD, Lq.eqD, Lq.neD, Lq.sameKind, Lq.isD, Lq.isntD, Lq.isNon, Lq.lenD, Lq.isiB, Lq.tyName, Lq.notObj, Lq.D.items?, Lq.fits, L2.atI, L2.ixN, hc]
theorem kth_best_ok {k : Nat} {w : Str} (hx : x.items? = some (ord.map D.str)) (hy : y.items? = some (sh.map D.str)) (hl : ord.length ≤ 1000) (h : ∀ w ∈ sh, w ∈ ord) (hk : (ord.filter fun w => decide (w ∈ sh))[k]? = some w) : f_kth_best [x, y, .int ((k : Int) + 1)] = .ok (.str w) := by
  have e := by_list_ok hx hy hl h
  have hlt := (List.getElem?_eq_some_iff.1 hk).1
  have e2 : atD (.tup ((ord.filter fun w => decide (w ∈ sh)).map D.str)) (.int (k : Int)) = some (.str w) := by
    simp only [atD, L2.atI, L2.ixN]
    rw [if_pos (by omega), List.length_map, if_pos (by omega)]
    simp [hk]
  have e3 : ((k : Int) + 1 ≤ (((ord.filter fun w => decide (w ∈ sh)).map D.str).length : Int)) := by rw [List.length_map]; omega
  have h1 : (1 : Int) ≤ (k : Int) + 1 := by omega
  generalize (ord.filter fun w => decide (w ∈ sh)).map D.str = L at e e2 e3
  simp [f_kth_best, m_kth_best, Lq.runF, Lq.runB, Lq.runL, Lq.boxAt, Lq.startR, Lq.seqS, Lq.nextS, Lq.ifS, Lq.asgS, Lq.asgM, Lq.asgG, Lq.retS, Lq.retF, Lq.dropS, Lq.forS, Lq.putItem, Lq.isMB, Lq.putS1, Lq.parS, Lq.consMd, Lq.consMf', Lq.noErr, Lq.nilM, Lq.setsR, Lq.nameE, Lq.constE, Lq.op1E, Lq.op2E, Lq.opNE, Lq.opNF, Lq.op2F, Lq.lift1, Lq.lift2, Lq.liftN, Lq.res, Lq.resAll, Lq.valT, Lq.notT, Lq.andT, Lq.orT, Lq.andE, Lq.orE, Lq.notE, Lq.ifE, Lq.consA, Lq.nilA, Lq.frzE, Lq.lstF, Lq.tupE, Lq.callE, Lq.callBE, Lq.callL, Lq.callNew, Lq.slotted, Lq.datAll, Lq.appE, Lq.popE, Lq.yesT, Lq.wipeR, Lq.backR, Lq.plainC, Lq.nameG, Lq.tupG, Lq.consG, Lq.nilG, Lq.seqI, Lq.rngI1, Lq.rngI2, Lq.enumI, Lq.zipI, Lq.isiE, Lq.slE, Lq.aPart, Lq.noPart, Lq.chainE, Lq.strM, Lq.orF, Lq.R.bind, Lq.R.thnO, Lq.raiseS, Lq.raise0S, Lq.tryS, Lq.hNil, Lq.hAs, Lq.goneS, Lq.enumA, Lq.enumK, Lq.ifF, Lq.permA, Lq.permL, Lq.D.noL, Lq.noLs, Lq.isEx, Lq.fldD, Lq.isErrD, Lq.itemsOf, Lq.onlyB, Lq.isB, Lq.D.flat, Lq.addD, Lq.catF, Lq.subD, Lq.negD, Lq.ltD, Lq.leD, Lq.gtD, Lq.geD, Lq.eqD, Lq.neD, Lq.sameKind, Lq.isD, Lq.isntD, Lq.isNon, Lq.lenD, Lq.isiB, Lq.tyName, Lq.notObj, Lq.D.items?, Lq.fits, L2.atI, L2.ixN, e, e2, e3, h1]
theorem kth_best_no {n : Int} (hx : x.items? = some (ord.map D.str)) (hy : y.items? = some (sh.map D.str)) (hl : ord.length ≤ 1000) (h : ∀ w ∈ sh, w ∈ ord) (hn : n < 1 ∨ ((ord.filter fun w => decide (w ∈ sh)).length : Int) < n) : f_kth_best [x, y, .int n] = .err ⟨11, [.int n]⟩ := by
  have e := by_list_ok hx hy hl h
  have e3 : (((ord.filter fun w => decide (w ∈ sh)).map D.str).length : Int) = ((ord.filter fun w => decide (w ∈ sh)).length : Int) := by rw [List.length_map]
  rw [← e3] at hn
  generalize (ord.filter fun w => decide (w ∈ sh)).map D.str = L at e hn
  rcases hn with hn | hn
  · have h1 : ¬ (1 ≤ n) := by omega
    simp [f_kth_best, m_kth_best, Lq.runF, Lq.runB, Lq.runL, Lq.boxAt, Lq.startR, Lq.seqS, Lq.nextS, Lq.ifS, Lq.asgS, Lq.asgM, Lq.asgG, Lq.retS, Lq.retF, Lq.dropS, Lq.forS, Lq.putItem, Lq.isMB, Lq.putS1, Lq.parS, Lq.consMd, Lq.consMf', Lq.noErr, Lq.nilM, Lq.setsR, Lq.nameE, Lq.constE, Lq.op1E, Lq.op2E, Lq.opNE, Lq.opNF, Lq.op2F, Lq.lift1, Lq.lift2, Lq.liftN, Lq.res, Lq.resAll, Lq.valT, Lq.notT, Lq.andT, Lq.orT, Lq.andE, Lq.orE, Lq.notE, Lq.ifE, Lq.consA, Lq.nilA, Lq.frzE, Lq.lstF, Lq.tupE, Lq.callE, Lq.callBE, Lq.callL, Lq.callNew, Lq.slotted, Lq.datAll, Lq.appE, Lq.popE, Lq.yesT, Lq.wipeR, Lq.backR, Lq.plainC, Lq.nameG, Lq.tupG, Lq.consG, Lq.nilG, Lq.seqI, Lq.rngI1, Lq.rngI2, Lq.enumI, Lq.zipI, Lq.isiE, Lq.slE, Lq.aPart, Lq.noPart, Lq.chainE, Lq.strM, Lq.orF, Lq.R.bind, Lq.R.thnO, Lq.raiseS, Lq.raise0S, Lq.tryS, Lq.hNil, Lq.hAs, Lq.goneS, Lq.enumA, Lq.enumK, Lq.ifF, Lq.permA, Lq.permL, Lq.D.noL, Lq.noLs, Lq.isEx, Lq.fldD, Lq.isErrD, Lq.itemsOf, Lq.onlyB, Lq.isB, Lq.D.flat, Lq.addD, Lq.catF, Lq.subD, Lq.negD, Lq.ltD, Lq.leD, Lq.gtD, Lq.geD, Lq.eqD, Lq.neD, Lq.sameKind, Lq.isD, Lq.isntD, Lq.isNon, Lq.lenD, Lq.isiB, Lq.tyName, Lq.notObj, Lq.D.items?, Lq.fits, L2.atI, L2.ixN, e, h1]
  · have h2 : ¬ (n ≤ (L.length : Int)) := by omega
    by_cases h1 : 1 ≤ n
    · simp [f_kth_best, m_kth_best, Lq.runF, Lq.runB, Lq.runL, Lq.boxAt, Lq.startR, Lq.seqS, Lq.nextS, Lq.ifS, Lq.asgS, Lq.asgM, Lq.asgG, Lq.retS, Lq.retF, Lq.dropS, Lq.forS, Lq.putItem, Lq.isMB, Lq.putS1, Lq.parS, Lq.consMd, Lq.consMf', Lq.noErr, Lq.nilM, Lq.setsR, Lq.nameE, Lq.constE, Lq.op1E, Lq.op2E, Lq.opNE, Lq.opNF, Lq.op2F, Lq.lift1, Lq.lift2, Lq.liftN, Lq.res, Lq.resAll, Lq.valT, Lq.notT, Lq.andT, Lq.orT, Lq.andE, Lq.orE, Lq.notE, Lq.ifE, Lq.consA, Lq.nilA, Lq.frzE, Lq.lstF, Lq.tupE, Lq.callE, Lq.callBE, Lq.callL, Lq.callNew, Lq.slotted, Lq.datAll, Lq.appE, Lq.popE, Lq.yesT, Lq.wipeR, Lq.backR, Lq.plainC, Lq.nameG, Lq.tupG, Lq.consG, Lq.nilG, Lq.seqI, Lq.rngI1, Lq.rngI2, Lq.enumI, Lq.zipI, Lq.isiE, Lq.slE, Lq.aPart, Lq.noPart, Lq.chainE, Lq.strM, Lq.orF, Lq.R.bind, Lq.R.thnO, Lq.raiseS, Lq.raise0S, Lq.tryS, Lq.hNil, Lq.hAs, Lq.goneS, Lq.enumA, Lq.enumK, Lq.ifF, Lq.permA, Lq.permL, Lq.D.noL, Lq.noLs, Lq.isEx, Lq.fldD, Lq.isErrD, Lq.itemsOf, Lq.onlyB, Lq.isB, Lq.D.flat, Lq.addD, Lq.catF, Lq.subD, Lq.negD, Lq.ltD, Lq.leD, Lq.gtD, Lq.geD, Lq.eqD, Lq.neD, Lq.sameKind, Lq.isD, Lq.isntD, Lq.isNon, Lq.lenD, Lq.isiB, Lq.tyName, Lq.notObj, Lq.D.items?, Lq.fits, L2.atI, L2.ixN, e, h1, h2]
    · simp [f_kth_best, m_kth_best, Lq.runF, Lq.runB, Lq.runL, Lq.boxAt, Lq.startR, Lq.seqS, Lq.nextS, Lq.ifS, Lq.asgS, Lq.asgM, Lq.asgG, Lq.retS, Lq.retF, Lq.dropS, Lq.forS, Lq.putItem, Lq.isMB, Lq.putS1, Lq.parS, Lq.consMd, Lq.consMf', Lq.noErr, Lq.nilM, Lq.setsR, Lq.nameE, Lq.constE, Lq.op1E, Lq.op2E, Lq.opNE, Lq.opNF, Lq.op2F, Lq.lift1, Lq.lift2, Lq.liftN, Lq.res, Lq.resAll, Lq.valT, Lq.notT, Lq.andT, Lq.orT, Lq.andE, Lq.orE, Lq.notE, Lq.ifE, Lq.consA, Lq.nilA, Lq.frzE, Lq.lstF, Lq.tupE, Lq.callE, Lq.callBE, Lq.callL, Lq.callNew, Lq.slotted, Lq.datAll, Lq.appE, Lq.popE, Lq.yesT, Lq.wipeR, Lq.backR, Lq.plainC, Lq.nameG, Lq.tupG, Lq.consG, Lq.nilG, Lq.seqI, Lq.rngI1, Lq.rngI2, Lq.enumI, Lq.zipI, Lq.isiE, Lq.slE, Lq.aPart, Lq.noPart, Lq.chainE, Lq.strM, Lq.orF, Lq.R.bind, Lq.R.thnO, Lq.raiseS, Lq.raise0S, Lq.tryS, Lq.hNil, Lq.hAs, Lq.goneS, Lq.enumA, Lq.enumK, Lq.ifF, Lq.permA, Lq.permL, Lq.D.noL, Lq.noLs, Lq.isEx, Lq.fldD, Lq.isErrD, Lq.itemsOf, Lq.onlyB, Lq.isB, Lq.D.flat, Lq.addD, Lq.catF, Lq.subD, Lq.negD, Lq.ltD, Lq.leD, Lq.gtD, Lq.geD, Lq.eqD, Lq.neD, Lq.sameKind, Lq.isD, Lq.isntD, Lq.isNon, Lq.lenD, Lq.isiB, Lq.tyName, Lq.notObj, Lq.D.items?, Lq.fits, L2.atI, L2.ixN, e, h1]
theorem kth_best_err {w : Str} {n : Int} (hc : f_check_on [x, y] = .err ⟨3, [.str w]⟩) : f_kth_best [x, y, .int n] = .err ⟨3, [.str w]⟩ := by
  simp [f_kth_best, m_kth_best, Lq.runF, Lq.runB, Lq.runL, Lq.boxAt, Lq.startR, Lq.seqS, Lq.nextS, Lq.ifS, Lq.asgS, Lq.asgM, Lq.asgG, Lq.retS, Lq.retF, Lq.dropS, Lq.forS, Lq.putItem, Lq.isMB, Lq.putS1, Lq.parS, Lq.consMd, Lq.consMf', Lq.noErr, Lq.nilM, Lq.setsR, Lq.nameE, Lq.constE, Lq.op1E, Lq.op2E, Lq.opNE, Lq.opNF, Lq.op2F, Lq.lift1, Lq.lift2, Lq.liftN, Lq.res, Lq.resAll, Lq.valT, Lq.notT, Lq.andT, Lq.orT, Lq.andE, Lq.orE, Lq.notE, Lq.ifE, Lq.consA, Lq.nilA, Lq.frzE, Lq.lstF, Lq.tupE, Lq.callE, Lq.callBE, Lq.callL, Lq.callNew, Lq.slotted, Lq.datAll, Lq.appE, Lq.popE, Lq.yesT, Lq.wipeR, Lq.backR, Lq.plainC, Lq.nameG, Lq.tupG, Lq.consG, Lq.nilG, Lq.seqI, Lq.rngI1, Lq.rngI2, Lq.enumI, Lq.zipI, Lq.isiE, Lq.slE, Lq.aPart, Lq.noPart, Lq.chainE, Lq.strM, Lq.orF, Lq.R.bind, Lq.R.thnO, Lq.raiseS, Lq.raise0S, Lq.tryS, Lq.hNil, Lq.hAs, Lq.goneS, Lq.enumA, Lq.enumK, Lq.ifF, Lq.permA, Lq.permL, Lq.D.noL, Lq.noLs, Lq.isEx, Lq.fldD, Lq.isErrD, Lq.itemsOf, Lq.onlyB, Lq.isB, Lq.D.flat, Lq.addD, Lq.catF, Lq.subD, Lq.negD, Lq.ltD, Lq.leD, Lq.gtD, Lq.geD, Lq.eqD, Lq.neD, Lq.sameKind, Lq.isD, Lq.isntD, Lq.isNon, Lq.lenD, Lq.isiB, Lq.tyName, Lq.notObj, Lq.D.items?, Lq.fits, L2.atI, L2.ixN, by_list_err hc]
theorem refused_no {n : Int} (h : f_kth_best [x, y, .int n] = .err ⟨11, [.int n]⟩) : f_law_refused [.int 2, x, y, .int n] = .ok (.lst [.int n, .bl true]) := by
  have f : flds 11 = [("number" : Str)] := rfl
  simp [f_law_refused, m_law_refused, Lq.runF, Lq.runB, Lq.runL, Lq.boxAt, Lq.startR, Lq.seqS, Lq.nextS, Lq.ifS, Lq.asgS, Lq.asgM, Lq.asgG, Lq.retS, Lq.retF, Lq.dropS, Lq.forS, Lq.putItem, Lq.isMB, Lq.putS1, Lq.parS, Lq.consMd, Lq.consMf', Lq.noErr, Lq.nilM, Lq.setsR, Lq.nameE, Lq.constE, Lq.op1E, Lq.op2E, Lq.opNE, Lq.opNF, Lq.op2F, Lq.lift1, Lq.lift2, Lq.liftN, Lq.res, Lq.resAll, Lq.valT, Lq.notT, Lq.andT, Lq.orT, Lq.andE, Lq.orE, Lq.notE, Lq.ifE, Lq.consA, Lq.nilA, Lq.frzE, Lq.lstF, Lq.tupE, Lq.callE, Lq.callBE, Lq.callL, Lq.callNew, Lq.slotted, Lq.datAll, Lq.appE, Lq.popE, Lq.yesT, Lq.wipeR, Lq.backR, Lq.plainC, Lq.nameG, Lq.tupG, Lq.consG, Lq.nilG, Lq.seqI, Lq.rngI1, Lq.rngI2, Lq.enumI, Lq.zipI, Lq.isiE, Lq.slE, Lq.aPart, Lq.noPart, Lq.chainE, Lq.strM, Lq.orF, Lq.R.bind, Lq.R.thnO, Lq.raiseS, Lq.raise0S, Lq.tryS, Lq.hNil, Lq.hAs, Lq.goneS, Lq.enumA, Lq.enumK, Lq.ifF, Lq.permA, Lq.permL, Lq.D.noL, Lq.noLs, Lq.isEx, Lq.fldD, Lq.isErrD, Lq.itemsOf, Lq.onlyB, Lq.isB, Lq.D.flat, Lq.addD, Lq.catF, Lq.subD, Lq.negD, Lq.ltD, Lq.leD, Lq.gtD, Lq.geD, Lq.eqD, Lq.neD, Lq.sameKind, Lq.isD, Lq.isntD, Lq.isNon, Lq.lenD, Lq.isiB, Lq.tyName, Lq.notObj, Lq.D.items?, Lq.fits, L2.atI, L2.ixN, h, deq, f, List.lookup]
theorem refused_thing {w : Str} {n k : Int} (hc : f_check_on [x, y] = .err ⟨3, [.str w]⟩) (hk : k = 0 ∨ k = 1 ∨ k = 2) : f_law_refused [.int k, x, y, .int n] = .ok (.lst [.str "thing", .str w, .bl true]) := by
  have f : flds 3 = [("name" : Str)] := rfl
  rcases hk with rfl | rfl | rfl
  · simp [f_law_refused, m_law_refused, Lq.runF, Lq.runB, Lq.runL, Lq.boxAt, Lq.startR, Lq.seqS, Lq.nextS, Lq.ifS, Lq.asgS, Lq.asgM, Lq.asgG, Lq.retS, Lq.retF, Lq.dropS, Lq.forS, Lq.putItem, Lq.isMB, Lq.putS1, Lq.parS, Lq.consMd, Lq.consMf', Lq.noErr, Lq.nilM, Lq.setsR, Lq.nameE, Lq.constE, Lq.op1E, Lq.op2E, Lq.opNE, Lq.opNF, Lq.op2F, Lq.lift1, Lq.lift2, Lq.liftN, Lq.res, Lq.resAll, Lq.valT, Lq.notT, Lq.andT, Lq.orT, Lq.andE, Lq.orE, Lq.notE, Lq.ifE, Lq.consA, Lq.nilA, Lq.frzE, Lq.lstF, Lq.tupE, Lq.callE, Lq.callBE, Lq.callL, Lq.callNew, Lq.slotted, Lq.datAll, Lq.appE, Lq.popE, Lq.yesT, Lq.wipeR, Lq.backR, Lq.plainC, Lq.nameG, Lq.tupG, Lq.consG, Lq.nilG, Lq.seqI, Lq.rngI1, Lq.rngI2, Lq.enumI, Lq.zipI, Lq.isiE, Lq.slE, Lq.aPart, Lq.noPart, Lq.chainE, Lq.strM, Lq.orF, Lq.R.bind, Lq.R.thnO, Lq.raiseS, Lq.raise0S, Lq.tryS, Lq.hNil, Lq.hAs, Lq.goneS, Lq.enumA, Lq.enumK, Lq.ifF, Lq.permA, Lq.permL, Lq.D.noL, Lq.noLs, Lq.isEx, Lq.fldD, Lq.isErrD, Lq.itemsOf, Lq.onlyB, Lq.isB, Lq.D.flat, Lq.addD, Lq.catF, Lq.subD, Lq.negD, Lq.ltD, Lq.leD, Lq.gtD, Lq.geD, Lq.eqD, Lq.neD, Lq.sameKind, Lq.isD, Lq.isntD, Lq.isNon, Lq.lenD, Lq.isiB, Lq.tyName, Lq.notObj, Lq.D.items?, Lq.fits, L2.atI, L2.ixN, by_list_err hc, deq, f, List.lookup]
  · simp [f_law_refused, m_law_refused, Lq.runF, Lq.runB, Lq.runL, Lq.boxAt, Lq.startR, Lq.seqS, Lq.nextS, Lq.ifS, Lq.asgS, Lq.asgM, Lq.asgG, Lq.retS, Lq.retF, Lq.dropS, Lq.forS, Lq.putItem, Lq.isMB, Lq.putS1, Lq.parS, Lq.consMd, Lq.consMf', Lq.noErr, Lq.nilM, Lq.setsR, Lq.nameE, Lq.constE, Lq.op1E, Lq.op2E, Lq.opNE, Lq.opNF, Lq.op2F, Lq.lift1, Lq.lift2, Lq.liftN, Lq.res, Lq.resAll, Lq.valT, Lq.notT, Lq.andT, Lq.orT, Lq.andE, Lq.orE, Lq.notE, Lq.ifE, Lq.consA, Lq.nilA, Lq.frzE, Lq.lstF, Lq.tupE, Lq.callE, Lq.callBE, Lq.callL, Lq.callNew, Lq.slotted, Lq.datAll, Lq.appE, Lq.popE, Lq.yesT, Lq.wipeR, Lq.backR, Lq.plainC, Lq.nameG, Lq.tupG, Lq.consG, Lq.nilG, Lq.seqI, Lq.rngI1, Lq.rngI2, Lq.enumI, Lq.zipI, Lq.isiE, Lq.slE, Lq.aPart, Lq.noPart, Lq.chainE, Lq.strM, Lq.orF, Lq.R.bind, Lq.R.thnO, Lq.raiseS, Lq.raise0S, Lq.tryS, Lq.hNil, Lq.hAs, Lq.goneS, Lq.enumA, Lq.enumK, Lq.ifF, Lq.permA, Lq.permL, Lq.D.noL, Lq.noLs, Lq.isEx, Lq.fldD, Lq.isErrD, Lq.itemsOf, Lq.onlyB, Lq.isB, Lq.D.flat, Lq.addD, Lq.catF, Lq.subD, Lq.negD, Lq.ltD, Lq.leD, Lq.gtD, Lq.geD, Lq.eqD, Lq.neD, Lq.sameKind, Lq.isD, Lq.isntD, Lq.isNon, Lq.lenD, Lq.isiB, Lq.tyName, Lq.notObj, Lq.D.items?, Lq.fits, L2.atI, L2.ixN, places_on_err hc, deq, f, List.lookup]
  · simp [f_law_refused, m_law_refused, Lq.runF, Lq.runB, Lq.runL, Lq.boxAt, Lq.startR, Lq.seqS, Lq.nextS, Lq.ifS, Lq.asgS, Lq.asgM, Lq.asgG, Lq.retS, Lq.retF, Lq.dropS, Lq.forS, Lq.putItem, Lq.isMB, Lq.putS1, Lq.parS, Lq.consMd, Lq.consMf', Lq.noErr, Lq.nilM, Lq.setsR, Lq.nameE, Lq.constE, Lq.op1E, Lq.op2E, Lq.opNE, Lq.opNF, Lq.op2F, Lq.lift1, Lq.lift2, Lq.liftN, Lq.res, Lq.resAll, Lq.valT, Lq.notT, Lq.andT, Lq.orT, Lq.andE, Lq.orE, Lq.notE, Lq.ifE, Lq.consA, Lq.nilA, Lq.frzE, Lq.lstF, Lq.tupE, Lq.callE, Lq.callBE, Lq.callL, Lq.callNew, Lq.slotted, Lq.datAll, Lq.appE, Lq.popE, Lq.yesT, Lq.wipeR, Lq.backR, Lq.plainC, Lq.nameG, Lq.tupG, Lq.consG, Lq.nilG, Lq.seqI, Lq.rngI1, Lq.rngI2, Lq.enumI, Lq.zipI, Lq.isiE, Lq.slE, Lq.aPart, Lq.noPart, Lq.chainE, Lq.strM, Lq.orF, Lq.R.bind, Lq.R.thnO, Lq.raiseS, Lq.raise0S, Lq.tryS, Lq.hNil, Lq.hAs, Lq.goneS, Lq.enumA, Lq.enumK, Lq.ifF, Lq.permA, Lq.permL, Lq.D.noL, Lq.noLs, Lq.isEx, Lq.fldD, Lq.isErrD, Lq.itemsOf, Lq.onlyB, Lq.isB, Lq.D.flat, Lq.addD, Lq.catF, Lq.subD, Lq.negD, Lq.ltD, Lq.leD, Lq.gtD, Lq.geD, Lq.eqD, Lq.neD, Lq.sameKind, Lq.isD, Lq.isntD, Lq.isNon, Lq.lenD, Lq.isiB, Lq.tyName, Lq.notObj, Lq.D.items?, Lq.fits, L2.atI, L2.ixN, kth_best_err hc, deq, f, List.lookup]
end
end Lw
namespace Lw
open PySem Lq
/-! ### draws of this law -/
theorem fine_pool {w : Str} (h : w ∈ pool) : fine 3 (.str w) = true := by
  have z : ∀ w ∈ pool, fine 3 (.str w) = true := by decide +kernel
  exact z w h
theorem pool_nodup : pool.Nodup := by decide +kernel
theorem tags_ok {k : Nat} {ns : List Int} {c : Int} (hb : Bx k ns) (h0 : 0 ≤ c) (h1 : c ≤ 8) (hk : k < 1000000) : ∃ (ws : List Str) (ns' : List Int), f_law_tags ns [.int c] = some (.tup (ws.map D.str), ns') ∧ (∀ w ∈ ws, w ∈ pool) ∧ ws.Nodup ∧ ws.length ≤ 8 ∧ Bx (k + 8) ns' := by
  obtain ⟨ys, ns', e, ⟨zs, hp⟩, hl, hb2⟩ := pick_ok (xs := pool.map D.str) hb h0 (by decide) (by omega)
  obtain ⟨ws, rfl, h3, h4⟩ := pick_strs hp pool_nodup
  rw [List.length_map] at hl
  refine ⟨sortStrs ws, ns', ?_, fun w hw => h3 w (sortStrs_mem.1 hw), (sortStrs_perm ws).nodup_iff.2 h4, by rw [sortStrs_len]; omega, hb2.mono (by omega)⟩
  have es := items_sorted (x := .lst (ws.map D.str)) rfl
  have e' : f_law_pick ns [.lst [.str "a", .str "ab", .str "b", .str "bag", .str "cup", .str "for", .str "x", .str "z", .str "zzzzzzzz"], .int c] = some (.lst (ws.map D.str), ns') := e
  generalize (sortStrs ws).map D.str = L at es
  generalize ws.map D.str = M at es e'
  simp [f_law_tags, m_law_tags, Lq.runF, Lq.runB, Lq.runL, Lq.boxAt, Lq.startR, Lq.seqS, Lq.nextS, Lq.ifS, Lq.asgS, Lq.asgM, Lq.asgG, Lq.retS, Lq.retF, Lq.dropS, Lq.forS, Lq.putItem, Lq.isMB, Lq.putS1, Lq.parS, Lq.consMd, Lq.consMf', Lq.noErr, Lq.nilM, Lq.setsR, Lq.nameE, Lq.constE, Lq.op1E, Lq.op2E, Lq.opNE, Lq.opNF, Lq.op2F, Lq.lift1, Lq.lift2, Lq.liftN, Lq.res, Lq.resAll, Lq.valT, Lq.notT, Lq.andT, Lq.orT, Lq.andE, Lq.orE, Lq.notE, Lq.ifE, Lq.consA, Lq.nilA, Lq.frzE, Lq.lstF, Lq.tupE, Lq.callE, Lq.callBE, Lq.callL, Lq.callNew, Lq.slotted, Lq.datAll, Lq.appE, Lq.popE, Lq.yesT, Lq.wipeR, Lq.backR, Lq.plainC, Lq.nameG, Lq.tupG, Lq.consG, Lq.nilG, Lq.seqI, Lq.rngI1, Lq.rngI2, Lq.enumI, Lq.zipI, Lq.isiE, Lq.slE, Lq.aPart, Lq.noPart, Lq.chainE, Lq.strM, Lq.orF, Lq.R.bind, Lq.R.thnO, Lq.raiseS, Lq.raise0S, Lq.tryS, Lq.hNil, Lq.hAs, Lq.goneS, Lq.enumA, Lq.enumK, Lq.ifF, Lq.permA, Lq.permL, Lq.D.noL, Lq.noLs, Lq.isEx, Lq.fldD, Lq.isErrD, Lq.itemsOf, Lq.onlyB, Lq.isB, Lq.D.flat, Lq.addD, Lq.catF, Lq.subD, Lq.negD, Lq.ltD, Lq.leD, Lq.gtD, Lq.geD, Lq.eqD, Lq.neD, Lq.sameKind, Lq.isD, Lq.isntD, Lq.isNon, Lq.lenD, Lq.isiB, Lq.tyName, Lq.notObj, Lq.D.items?, Lq.fits, L2.atI, L2.ixN, e', es, Lq.tupleD]
theorem mixed_ok {k : Nat} {ns : List Int} {xs : List D} (hb : Bx k ns) (h1 : xs.length ≤ 1000) (hk : k < 1000000) : ∃ ys ns', f_law_mixed ns [.tup xs] = some (.tup ys, ns') ∧ ys.Perm xs ∧ Bx (k + xs.length) ns' := by
  obtain ⟨ρ', el, hi⟩ := loop_inv (body := turnS (nameG 4) m_law_mixed_b1) (fun j ρ => j ≤ xs.length → ∃ ns ys zs cc, ρ = [.b ns, .d (.tup xs), .m zs, .m ys, cc] ∧ (ys ++ zs).Perm xs ∧ ys.length = j ∧ Bx (k + j) ns) (rng 0 xs.length) 0
    [.b ns, .d (.tup xs), .m xs, .m [], .no] (fun _ => ⟨ns, [], xs, .no, rfl, List.Perm.refl _, rfl, hb⟩) (fun j d ρ hj hi => by
      obtain ⟨hj1, rfl⟩ := rng_at hj
      obtain ⟨ns1, ys, zs, cc, rfl, hp, hl, hb1⟩ := hi (by omega)
      have hle := hp.length_eq
      rw [List.length_append] at hle
      have hz : 0 < zs.length := by omega
      obtain ⟨r, ns2, e, g1, g2, g3⟩ := take_ok hb1 (n := zs.length) (by omega) (by omega) (by omega)
      have hr : r.toNat < zs.length := by omega
      have hg : zs[r.toNat]? = some zs[r.toNat] := List.getElem?_eq_getElem hr
      have hr2 : r < 1000000 := by omega
      have hf : ys.length + 1 ≤ 1000000 := by omega
      refine ⟨[.b ns2, .d (.tup xs), .m (zs.eraseIdx r.toNat), .m (ys ++ [zs[r.toNat]]), .d (.int (0 + (j : Nat)))], ?_, fun _ => ⟨ns2, ys ++ [zs[r.toNat]], zs.eraseIdx r.toNat, _, rfl, ?_, by rw [List.length_append, List.length_singleton]; omega, by rw [show k + (0 + j + 1) = k + (0 + j) + 1 by omega]; exact g3⟩⟩
      · simp [m_law_mixed_b1, Lq.runF, Lq.runB, Lq.runL, Lq.boxAt, Lq.startR, Lq.seqS, Lq.nextS, Lq.ifS, Lq.asgS, Lq.asgM, Lq.asgG, Lq.retS, Lq.retF, Lq.dropS, Lq.forS, Lq.loopS, Lq.turnS, Lq.putItem, Lq.isMB, Lq.putS1, Lq.parS, Lq.consMd, Lq.consMf', Lq.noErr, Lq.nilM, Lq.setsR, Lq.nameE, Lq.constE, Lq.op1E, Lq.op2E, Lq.opNE, Lq.opNF, Lq.op2F, Lq.lift1, Lq.lift2, Lq.liftN, Lq.res, Lq.resAll, Lq.valT, Lq.notT, Lq.andT, Lq.orT, Lq.andE, Lq.orE, Lq.notE, Lq.ifE, Lq.consA, Lq.nilA, Lq.frzE, Lq.lstF, Lq.tupE, Lq.callE, Lq.callBE, Lq.callL, Lq.callNew, Lq.slotted, Lq.datAll, Lq.appE, Lq.popE, Lq.compF, Lq.compLoop, Lq.compTurn, Lq.yesT, Lq.wipeR, Lq.backR, Lq.plainC, Lq.nameG, Lq.tupG, Lq.consG, Lq.nilG, Lq.seqI, Lq.rngI1, Lq.rngI2, Lq.enumI, Lq.zipI, Lq.isiE, Lq.slE, Lq.aPart, Lq.noPart, Lq.chainE, Lq.strM, Lq.orF, Lq.R.bind, Lq.R.thnO, Lq.raiseS, Lq.raise0S, Lq.tryS, Lq.hNil, Lq.hAs, Lq.goneS, Lq.enumA, Lq.enumK, Lq.ifF, Lq.permA, Lq.permL, Lq.D.noL, Lq.noLs, Lq.isEx, Lq.fldD, Lq.isErrD, Lq.itemsOf, Lq.onlyB, Lq.isB, Lq.D.flat, Lq.addD, Lq.catF, Lq.subD, Lq.mulD, Lq.fdivD, Lq.modD, Lq.powD, Lq.negD, Lq.ltD, Lq.leD, Lq.gtD, Lq.geD, Lq.eqD, Lq.neD, Lq.sameKind, Lq.isD, Lq.isntD, Lq.isNon, Lq.inD, Lq.ninD, Lq.anyEq, Lq.lenD, Lq.atD, Lq.cutD, Lq.revD, Lq.splitD, Lq.joinD, Lq.tupleD, Lq.listF, Lq.allD, Lq.anyD, Lq.sumD, Lq.absD, Lq.min2D, Lq.max2D, Lq.intD, Lq.strD, Lq.sortedF, Lq.isiB, Lq.tyName, Lq.notObj, Lq.D.items?, Lq.fits, L2.atI, L2.ixN, e, hg, g1, g2, hr2, hf]
      · rw [List.append_assoc]
        exact ((erase_perm hr).append_left ys).trans hp)
  rw [rng_len, Nat.zero_add] at hi
  obtain ⟨ns1, ys, zs, cc, rfl, hp, hl, hb1⟩ := hi (Nat.le_refl _)
  have hz : zs = [] := by
    have := hp.length_eq
    rw [List.length_append] at this
    exact List.length_eq_zero_iff.1 (by omega)
  subst hz
  rw [List.append_nil] at hp
  refine ⟨ys, ns1, ?_, hp, hb1⟩
  have eo : okR (xs.length : Int) = true := okR_small (by omega) (by omega)
  simp [f_law_mixed, m_law_mixed, m_law_mixed_l1, Lq.runF, Lq.runB, Lq.runL, Lq.boxAt, Lq.startR, Lq.seqS, Lq.nextS, Lq.ifS, Lq.asgS, Lq.asgM, Lq.asgG, Lq.retS, Lq.retF, Lq.dropS, Lq.forS, Lq.putItem, Lq.isMB, Lq.putS1, Lq.parS, Lq.consMd, Lq.consMf', Lq.noErr, Lq.nilM, Lq.setsR, Lq.nameE, Lq.constE, Lq.op1E, Lq.op2E, Lq.opNE, Lq.opNF, Lq.op2F, Lq.lift1, Lq.lift2, Lq.liftN, Lq.res, Lq.resAll, Lq.valT, Lq.notT, Lq.andT, Lq.orT, Lq.andE, Lq.orE, Lq.notE, Lq.ifE, Lq.consA, Lq.nilA, Lq.frzE, Lq.lstF, Lq.tupE, Lq.callE, Lq.callBE, Lq.callL, Lq.callNew, Lq.slotted, Lq.datAll, Lq.appE, Lq.popE, Lq.compF, Lq.yesT, Lq.wipeR, Lq.backR, Lq.plainC, Lq.nameG, Lq.tupG, Lq.consG, Lq.nilG, Lq.seqI, Lq.rngI1, Lq.rngI2, Lq.enumI, Lq.zipI, Lq.isiE, Lq.slE, Lq.aPart, Lq.noPart, Lq.chainE, Lq.strM, Lq.orF, Lq.R.bind, Lq.R.thnO, Lq.raiseS, Lq.raise0S, Lq.tryS, Lq.hNil, Lq.hAs, Lq.goneS, Lq.enumA, Lq.enumK, Lq.ifF, Lq.permA, Lq.permL, Lq.D.noL, Lq.noLs, Lq.isEx, Lq.fldD, Lq.isErrD, Lq.itemsOf, Lq.onlyB, Lq.isB, Lq.D.flat, Lq.addD, Lq.catF, Lq.subD, Lq.mulD, Lq.fdivD, Lq.modD, Lq.powD, Lq.negD, Lq.ltD, Lq.leD, Lq.gtD, Lq.geD, Lq.eqD, Lq.neD, Lq.sameKind, Lq.isD, Lq.isntD, Lq.isNon, Lq.inD, Lq.ninD, Lq.anyEq, Lq.lenD, Lq.atD, Lq.cutD, Lq.revD, Lq.splitD, Lq.joinD, Lq.tupleD, Lq.listF, Lq.allD, Lq.anyD, Lq.sumD, Lq.absD, Lq.min2D, Lq.max2D, Lq.intD, Lq.strD, Lq.sortedF, Lq.isiB, Lq.tyName, Lq.notObj, Lq.D.items?, Lq.fits, L2.atI, L2.ixN, el, eo]
theorem perm_strs {ws : List Str} {ys : List D} (h : ys.Perm (ws.map D.str)) : ∃ vs : List Str, ys = vs.map D.str ∧ vs.Perm ws := by
  obtain ⟨vs, rfl, _⟩ := drawn_strs (xs := ws) (ys := ys) fun y hy => h.mem_iff.1 hy
  refine ⟨vs, rfl, ?_⟩
  have h2 := h.map (fun d => match d with | D.str w => w | _ => "")
  rw [List.map_map, List.map_map] at h2
  have e : ∀ l : List Str, l.map ((fun d => match d with | D.str w => w | _ => "") ∘ D.str) = l := fun l => List.map_id l
  rw [e, e] at h2
  exact h2
/-! ### a case -/
theorem rng_zip (ws : List Str) : rng 0 ws.length = ws.zipIdx.map fun p => D.int (p.2 : Nat) := by
  unfold rng
  rw [show (fun p : Str × Nat => D.int ((p.2 : Nat) : Int)) = (fun i : Nat => D.int (0 + (i : Int))) ∘ Prod.snd by funext p; simp, ← List.map_map, List.zipIdx_map_snd, List.range_eq_range']
theorem zip_get {ws : List Str} {p : Str × Nat} (h : p ∈ ws.zipIdx) : ws[p.2]? = some p.1 := by
  have := List.mk_mem_zipIdx_iff_getElem?.1 (show (p.1, p.2) ∈ ws.zipIdx from h)
  exact this
theorem rng_map (ws : List Str) : (rng 0 ws.length).map (fun d => match d with | .int k => (match ws[k.toNat]? with | some w => D.str w | none => .non) | _ => .non) = ws.map D.str := by
  rw [rng_zip, List.map_map]
  have : ∀ p ∈ ws.zipIdx, ((fun d => match d with | D.int k => (match ws[k.toNat]? with | some w => D.str w | none => .non) | _ => .non) ∘ fun p : Str × Nat => D.int ((p.2 : Nat) : Int)) p = D.str p.1 := fun p hp => by
    simp [Function.comp, zip_get hp]
  rw [List.map_congr_left this, show (fun p : Str × Nat => D.str p.1) = D.str ∘ Prod.fst from rfl, ← List.map_map, List.zipIdx_map_fst]
theorem c1_ok {k : Nat} {ns : List Int} {ord : List Str} (hb : Bx k ns) (hk : k < 1000000) (hl : ord.length ≤ 1000) : ∃ (lot : List Str) (ns' : List Int), m_law_case_right_c1 [.b ns, .d (.tup (ord.map D.str)), .no, .no, .no, .no, .no, .no, .no] = .ok (lot.map D.str) [.b ns', .d (.tup (ord.map D.str)), .no, .no, .no, .no, .no, .no, .no] ∧ lot.Sublist (sortStrs ord) ∧ Bx (k + ord.length) ns' := by
  have es := items_sorted (x := .tup (ord.map D.str)) rfl
  obtain ⟨acc, ρ', e, ns', lot, rfl, rfl, hs, hb'⟩ := compF_st (vs := [7]) (fi := seqI (frzE (opNF sortedF (consA (nameE 1) nilA)))) (gd := nameG 7) (ft := m_law_case_right_t1) (fe := m_law_case_right_e1) (ρ := [.b ns, .d (.tup (ord.map D.str)), .no, .no, .no, .no, .no, .no, .no]) (ρ0 := [.b ns, .d (.tup (ord.map D.str)), .no, .no, .no, .no, .no, .no, .no]) (ds := (sortStrs ord).map D.str)
    (fun j acc ρ => ∃ (ns1 : List Int) (lot : List Str), ρ = [.b ns1, .d (.tup (ord.map D.str)), .no, .no, .no, .no, .no, .no, .no] ∧ acc = lot.map D.str ∧ lot.Sublist ((sortStrs ord).take j) ∧ Bx (k + j) ns1)
    (by simp [Lq.seqI, Lq.frzE, Lq.opNF, Lq.consA, Lq.nilA, Lq.nameE, Lq.R.bind, Lq.resAll, Lq.res, es, Lq.itemsOf]) rfl ⟨ns, [], rfl, rfl, List.Sublist.refl _, hb⟩ (fun j d acc ρ hj hI => by
      obtain ⟨w, hq, rfl⟩ := strs_at hj
      obtain ⟨ns1, lot, rfl, rfl, hs, hb1⟩ := hI
      have hjl : j < (sortStrs ord).length := (List.getElem?_eq_some_iff.1 hq).1
      rw [sortStrs_len] at hjl
      obtain ⟨r, ns2, et, g1, g2, hb2⟩ := take_ok hb1 (n := 2) (by omega) (by omega) (by omega)
      have ht : (sortStrs ord).take (j + 1) = (sortStrs ord).take j ++ [w] := by rw [List.take_add_one, hq]; rfl
      have hlen : lot.length + 1 ≤ 1000000 := by
        have := hs.length_le
        rw [List.length_take] at this
        omega
      by_cases h0 : r = 0
      · refine ⟨(lot ++ [w]).map D.str, [.b ns2, .d (.tup (ord.map D.str)), .no, .no, .no, .no, .no, .d (.str w), .no], ?_, ns2, lot ++ [w], rfl, rfl, ?_, by rw [show k + (j + 1) = k + j + 1 by omega]; exact hb2⟩
        · simp [Lq.compTurn, m_law_case_right_t1, m_law_case_right_e1, Lq.runF, Lq.runB, Lq.runL, Lq.boxAt, Lq.startR, Lq.seqS, Lq.nextS, Lq.ifS, Lq.asgS, Lq.asgM, Lq.asgG, Lq.retS, Lq.retF, Lq.dropS, Lq.forS, Lq.putItem, Lq.isMB, Lq.putS1, Lq.parS, Lq.consMd, Lq.consMf', Lq.noErr, Lq.nilM, Lq.setsR, Lq.nameE, Lq.constE, Lq.op1E, Lq.op2E, Lq.opNE, Lq.opNF, Lq.op2F, Lq.lift1, Lq.lift2, Lq.liftN, Lq.res, Lq.resAll, Lq.valT, Lq.notT, Lq.andT, Lq.orT, Lq.andE, Lq.orE, Lq.notE, Lq.ifE, Lq.consA, Lq.nilA, Lq.frzE, Lq.lstF, Lq.tupE, Lq.callE, Lq.callBE, Lq.callL, Lq.callNew, Lq.slotted, Lq.datAll, Lq.appE, Lq.popE, Lq.yesT, Lq.wipeR, Lq.backR, Lq.plainC, Lq.nameG, Lq.tupG, Lq.consG, Lq.nilG, Lq.seqI, Lq.rngI1, Lq.rngI2, Lq.enumI, Lq.zipI, Lq.isiE, Lq.slE, Lq.aPart, Lq.noPart, Lq.chainE, Lq.strM, Lq.orF, Lq.R.bind, Lq.R.thnO, Lq.raiseS, Lq.raise0S, Lq.tryS, Lq.hNil, Lq.hAs, Lq.goneS, Lq.enumA, Lq.enumK, Lq.ifF, Lq.permA, Lq.permL, Lq.D.noL, Lq.noLs, Lq.isEx, Lq.fldD, Lq.isErrD, Lq.itemsOf, Lq.onlyB, Lq.isB, Lq.D.flat, Lq.addD, Lq.catF, Lq.subD, Lq.negD, Lq.ltD, Lq.leD, Lq.gtD, Lq.geD, Lq.eqD, Lq.neD, Lq.sameKind, Lq.isD, Lq.isntD, Lq.isNon, Lq.lenD, Lq.isiB, Lq.tyName, Lq.notObj, Lq.D.items?, Lq.fits, L2.atI, L2.ixN, et, h0, deq, hlen]
        · rw [ht]; exact hs.append (List.Sublist.refl _)
      · refine ⟨lot.map D.str, [.b ns2, .d (.tup (ord.map D.str)), .no, .no, .no, .no, .no, .d (.str w), .no], ?_, ns2, lot, rfl, rfl, ?_, by rw [show k + (j + 1) = k + j + 1 by omega]; exact hb2⟩
        · simp [Lq.compTurn, m_law_case_right_t1, m_law_case_right_e1, Lq.runF, Lq.runB, Lq.runL, Lq.boxAt, Lq.startR, Lq.seqS, Lq.nextS, Lq.ifS, Lq.asgS, Lq.asgM, Lq.asgG, Lq.retS, Lq.retF, Lq.dropS, Lq.forS, Lq.putItem, Lq.isMB, Lq.putS1, Lq.parS, Lq.consMd, Lq.consMf', Lq.noErr, Lq.nilM, Lq.setsR, Lq.nameE, Lq.constE, Lq.op1E, Lq.op2E, Lq.opNE, Lq.opNF, Lq.op2F, Lq.lift1, Lq.lift2, Lq.liftN, Lq.res, Lq.resAll, Lq.valT, Lq.notT, Lq.andT, Lq.orT, Lq.andE, Lq.orE, Lq.notE, Lq.ifE, Lq.consA, Lq.nilA, Lq.frzE, Lq.lstF, Lq.tupE, Lq.callE, Lq.callBE, Lq.callL, Lq.callNew, Lq.slotted, Lq.datAll, Lq.appE, Lq.popE, Lq.yesT, Lq.wipeR, Lq.backR, Lq.plainC, Lq.nameG, Lq.tupG, Lq.consG, Lq.nilG, Lq.seqI, Lq.rngI1, Lq.rngI2, Lq.enumI, Lq.zipI, Lq.isiE, Lq.slE, Lq.aPart, Lq.noPart, Lq.chainE, Lq.strM, Lq.orF, Lq.R.bind, Lq.R.thnO, Lq.raiseS, Lq.raise0S, Lq.tryS, Lq.hNil, Lq.hAs, Lq.goneS, Lq.enumA, Lq.enumK, Lq.ifF, Lq.permA, Lq.permL, Lq.D.noL, Lq.noLs, Lq.isEx, Lq.fldD, Lq.isErrD, Lq.itemsOf, Lq.onlyB, Lq.isB, Lq.D.flat, Lq.addD, Lq.catF, Lq.subD, Lq.negD, Lq.ltD, Lq.leD, Lq.gtD, Lq.geD, Lq.eqD, Lq.neD, Lq.sameKind, Lq.isD, Lq.isntD, Lq.isNon, Lq.lenD, Lq.isiB, Lq.tyName, Lq.notObj, Lq.D.items?, Lq.fits, L2.atI, L2.ixN, et, h0, deq]
        · rw [ht]; exact hs.trans (List.sublist_append_left _ _))
  rw [List.length_map, sortStrs_len] at hs hb'
  exact ⟨lot, ns', e, hs.trans (List.take_sublist _ _), hb'⟩
section
variable {ns : List Int} {ord lot : List Str} {c3 c4 c5 : Cell}
theorem c2_ok (hl : ord.length ≤ 1000) : m_law_case_right_c2 [.b ns, .d (.tup (ord.map D.str)), .d (.tup (lot.map D.str)), c3, c4, c5, .no, .no, .no] = .ok ((ord.filter fun w => decide (w ∈ lot)).map D.str) [.b ns, .d (.tup (ord.map D.str)), .d (.tup (lot.map D.str)), c3, c4, c5, .no, .no, .no] := by
  have e := compF_fm (vs := [7]) (fi := seqI (nameE 1)) (gd := nameG 7) (ft := m_law_case_right_t2) (fe := m_law_case_right_e2) (ρ := [.b ns, .d (.tup (ord.map D.str)), .d (.tup (lot.map D.str)), c3, c4, c5, .no, .no, .no]) (ρ0 := [.b ns, .d (.tup (ord.map D.str)), .d (.tup (lot.map D.str)), c3, c4, c5, .no, .no, .no]) (ds := ord.map D.str) (onS fun w => decide (w ∈ lot)) id rfl rfl (by rw [List.length_map]; omega) (fun d hd => by
      obtain ⟨w, hw, rfl⟩ := List.mem_map.1 hd
      exact ⟨[.b ns, .d (.tup (ord.map D.str)), .d (.tup (lot.map D.str)), c3, c4, c5, .no, .d (.str w), .no], rfl, by simp [m_law_case_right_t2, Lq.runF, Lq.runB, Lq.runL, Lq.boxAt, Lq.startR, Lq.seqS, Lq.nextS, Lq.ifS, Lq.asgS, Lq.asgM, Lq.asgG, Lq.retS, Lq.retF, Lq.dropS, Lq.forS, Lq.putItem, Lq.isMB, Lq.putS1, Lq.parS, Lq.consMd, Lq.consMf', Lq.noErr, Lq.nilM, Lq.setsR, Lq.nameE, Lq.constE, Lq.op1E, Lq.op2E, Lq.opNE, Lq.opNF, Lq.op2F, Lq.lift1, Lq.lift2, Lq.liftN, Lq.res, Lq.resAll, Lq.valT, Lq.notT, Lq.andT, Lq.orT, Lq.andE, Lq.orE, Lq.notE, Lq.ifE, Lq.consA, Lq.nilA, Lq.frzE, Lq.lstF, Lq.tupE, Lq.callE, Lq.callBE, Lq.callL, Lq.callNew, Lq.slotted, Lq.datAll, Lq.appE, Lq.popE, Lq.yesT, Lq.wipeR, Lq.backR, Lq.plainC, Lq.nameG, Lq.tupG, Lq.consG, Lq.nilG, Lq.seqI, Lq.rngI1, Lq.rngI2, Lq.enumI, Lq.zipI, Lq.isiE, Lq.slE, Lq.aPart, Lq.noPart, Lq.chainE, Lq.strM, Lq.orF, Lq.R.bind, Lq.R.thnO, Lq.raiseS, Lq.raise0S, Lq.tryS, Lq.hNil, Lq.hAs, Lq.goneS, Lq.enumA, Lq.enumK, Lq.ifF, Lq.permA, Lq.permL, Lq.D.noL, Lq.noLs, Lq.isEx, Lq.fldD, Lq.isErrD, Lq.itemsOf, Lq.onlyB, Lq.isB, Lq.D.flat, Lq.addD, Lq.catF, Lq.subD, Lq.negD, Lq.ltD, Lq.leD, Lq.gtD, Lq.geD, Lq.eqD, Lq.neD, Lq.sameKind, Lq.isD, Lq.isntD, Lq.isNon, Lq.lenD, Lq.isiB, Lq.tyName, Lq.notObj, Lq.D.items?, Lq.fits, L2.atI, L2.ixN, in_strs (x := .tup (lot.map D.str)) rfl, onS], fun _ => rfl, rfl⟩)
  rw [filter_onS, List.map_id] at e
  exact e
theorem c3_ok (hl : ord.length ≤ 1000) : m_law_case_right_c3 [.b ns, .d (.tup (ord.map D.str)), .d (.tup (lot.map D.str)), c3, c4, c5, .no, .no, .no] = .ok ((placesL ord lot).map D.int) [.b ns, .d (.tup (ord.map D.str)), .d (.tup (lot.map D.str)), c3, c4, c5, .no, .no, .no] := by
  have eo : okR (ord.length : Int) = true := okR_small (by omega) (by omega)
  have e := compF_fm (vs := [6]) (fi := rngI1 (consA (opNE lenD (consA (nameE 1) nilA)) nilA)) (gd := nameG 6) (ft := m_law_case_right_t3) (fe := m_law_case_right_e3) (ρ := [.b ns, .d (.tup (ord.map D.str)), .d (.tup (lot.map D.str)), c3, c4, c5, .no, .no, .no]) (ρ0 := [.b ns, .d (.tup (ord.map D.str)), .d (.tup (lot.map D.str)), c3, c4, c5, .no, .no, .no]) (ds := ord.zipIdx.map fun p => D.int (p.2 : Nat))
    (fun d => match d with | .int k => (match ord[k.toNat]? with | some w => decide (w ∈ lot) | none => false) | _ => false) (fun d => match d with | .int k => .int (k + 1) | _ => .non) (by rw [← rng_zip]; simp [Lq.rngI1, Lq.consA, Lq.nilA, Lq.opNE, Lq.liftN, Lq.nameE, Lq.R.bind, Lq.resAll, Lq.res, Lq.lenD, eo]) rfl (by rw [List.length_map, List.length_zipIdx]; omega) (fun d hd => by
      obtain ⟨⟨w, k⟩, hw, rfl⟩ := List.mem_map.1 hd
      have hg := zip_get hw
      have hkl := (List.getElem?_eq_some_iff.1 hg).1
      have ea : atD (.tup (ord.map D.str)) (.int (k : Int)) = some (.str w) := by
        simp only [atD, L2.atI, L2.ixN]
        rw [if_pos (by omega), List.length_map, if_pos (by simp at hkl; omega)]
        simp at hg
        simp [hg]
      exact ⟨[.b ns, .d (.tup (ord.map D.str)), .d (.tup (lot.map D.str)), c3, c4, c5, .d (.int k), .no, .no], rfl, by simp at hg; simp [m_law_case_right_t3, Lq.runF, Lq.runB, Lq.runL, Lq.boxAt, Lq.startR, Lq.seqS, Lq.nextS, Lq.ifS, Lq.asgS, Lq.asgM, Lq.asgG, Lq.retS, Lq.retF, Lq.dropS, Lq.forS, Lq.putItem, Lq.isMB, Lq.putS1, Lq.parS, Lq.consMd, Lq.consMf', Lq.noErr, Lq.nilM, Lq.setsR, Lq.nameE, Lq.constE, Lq.op1E, Lq.op2E, Lq.opNE, Lq.opNF, Lq.op2F, Lq.lift1, Lq.lift2, Lq.liftN, Lq.res, Lq.resAll, Lq.valT, Lq.notT, Lq.andT, Lq.orT, Lq.andE, Lq.orE, Lq.notE, Lq.ifE, Lq.consA, Lq.nilA, Lq.frzE, Lq.lstF, Lq.tupE, Lq.callE, Lq.callBE, Lq.callL, Lq.callNew, Lq.slotted, Lq.datAll, Lq.appE, Lq.popE, Lq.yesT, Lq.wipeR, Lq.backR, Lq.plainC, Lq.nameG, Lq.tupG, Lq.consG, Lq.nilG, Lq.seqI, Lq.rngI1, Lq.rngI2, Lq.enumI, Lq.zipI, Lq.isiE, Lq.slE, Lq.aPart, Lq.noPart, Lq.chainE, Lq.strM, Lq.orF, Lq.R.bind, Lq.R.thnO, Lq.raiseS, Lq.raise0S, Lq.tryS, Lq.hNil, Lq.hAs, Lq.goneS, Lq.enumA, Lq.enumK, Lq.ifF, Lq.permA, Lq.permL, Lq.D.noL, Lq.noLs, Lq.isEx, Lq.fldD, Lq.isErrD, Lq.itemsOf, Lq.onlyB, Lq.isB, Lq.D.flat, Lq.addD, Lq.catF, Lq.subD, Lq.negD, Lq.ltD, Lq.leD, Lq.gtD, Lq.geD, Lq.eqD, Lq.neD, Lq.sameKind, Lq.isD, Lq.isntD, Lq.isNon, Lq.lenD, Lq.isiB, Lq.tyName, Lq.notObj, Lq.D.items?, Lq.fits, L2.atI, L2.ixN, ea, in_strs (x := .tup (lot.map D.str)) rfl, hg], fun _ => by simp [m_law_case_right_e3, Lq.runF, Lq.runB, Lq.runL, Lq.boxAt, Lq.startR, Lq.seqS, Lq.nextS, Lq.ifS, Lq.asgS, Lq.asgM, Lq.asgG, Lq.retS, Lq.retF, Lq.dropS, Lq.forS, Lq.putItem, Lq.isMB, Lq.putS1, Lq.parS, Lq.consMd, Lq.consMf', Lq.noErr, Lq.nilM, Lq.setsR, Lq.nameE, Lq.constE, Lq.op1E, Lq.op2E, Lq.opNE, Lq.opNF, Lq.op2F, Lq.lift1, Lq.lift2, Lq.liftN, Lq.res, Lq.resAll, Lq.valT, Lq.notT, Lq.andT, Lq.orT, Lq.andE, Lq.orE, Lq.notE, Lq.ifE, Lq.consA, Lq.nilA, Lq.frzE, Lq.lstF, Lq.tupE, Lq.callE, Lq.callBE, Lq.callL, Lq.callNew, Lq.slotted, Lq.datAll, Lq.appE, Lq.popE, Lq.yesT, Lq.wipeR, Lq.backR, Lq.plainC, Lq.nameG, Lq.tupG, Lq.consG, Lq.nilG, Lq.seqI, Lq.rngI1, Lq.rngI2, Lq.enumI, Lq.zipI, Lq.isiE, Lq.slE, Lq.aPart, Lq.noPart, Lq.chainE, Lq.strM, Lq.orF, Lq.R.bind, Lq.R.thnO, Lq.raiseS, Lq.raise0S, Lq.tryS, Lq.hNil, Lq.hAs, Lq.goneS, Lq.enumA, Lq.enumK, Lq.ifF, Lq.permA, Lq.permL, Lq.D.noL, Lq.noLs, Lq.isEx, Lq.fldD, Lq.isErrD, Lq.itemsOf, Lq.onlyB, Lq.isB, Lq.D.flat, Lq.addD, Lq.catF, Lq.subD, Lq.negD, Lq.ltD, Lq.leD, Lq.gtD, Lq.geD, Lq.eqD, Lq.neD, Lq.sameKind, Lq.isD, Lq.isntD, Lq.isNon, Lq.lenD, Lq.isiB, Lq.tyName, Lq.notObj, Lq.D.items?, Lq.fits, L2.atI, L2.ixN], rfl⟩)
  rw [List.filter_map, List.map_map] at e
  have hc : ord.zipIdx.filter ((fun d => match d with | D.int k => (match ord[k.toNat]? with | some w => decide (w ∈ lot) | none => false) | _ => false) ∘ fun p : Str × Nat => D.int ((p.2 : Nat) : Int)) = ord.zipIdx.filter fun p => decide (p.1 ∈ lot) := List.filter_congr fun p hp => by simp [Function.comp, zip_get hp]
  rw [hc] at e
  rw [placesL, List.map_map]
  exact e
theorem c4_ok (hl : ord.length ≤ 1000) (hin : ∀ w ∈ lot, w ∈ ord) (hrow : (ord.filter fun w => decide (w ∈ lot)).length = lot.length) : m_law_case_right_c4 [.b ns, .d (.tup (ord.map D.str)), .d (.tup (lot.map D.str)), c3, c4, c5, .no, .no, .no] = .ok ((ord.filter fun w => decide (w ∈ lot)).map D.str) [.b ns, .d (.tup (ord.map D.str)), .d (.tup (lot.map D.str)), c3, c4, c5, .no, .no, .no] ∧
    m_law_case_right_c5 [.b ns, .d (.tup (ord.map D.str)), .d (.tup (lot.map D.str)), c3, c4, c5, .no, .no, .no] = .ok ((ord.filter fun w => decide (w ∈ lot)).map D.str) [.b ns, .d (.tup (ord.map D.str)), .d (.tup (lot.map D.str)), c3, c4, c5, .no, .no, .no] := by
  have hll : lot.length ≤ 1000 := by rw [← hrow]; exact Nat.le_trans (List.length_filter_le _ _) hl
  have eo : okR (lot.length : Int) = true := okR_small (by omega) (by omega)
  have es : rngI1 (consA (opNE lenD (consA (nameE 2) nilA)) nilA) [.b ns, .d (.tup (ord.map D.str)), .d (.tup (lot.map D.str)), c3, c4, c5, .no, .no, .no] = .ok (rng 0 (ord.filter fun w => decide (w ∈ lot)).length) [.b ns, .d (.tup (ord.map D.str)), .d (.tup (lot.map D.str)), c3, c4, c5, .no, .no, .no] := by
    rw [hrow]; simp [Lq.rngI1, Lq.consA, Lq.nilA, Lq.opNE, Lq.liftN, Lq.nameE, Lq.R.bind, Lq.resAll, Lq.res, Lq.lenD, eo]
  have each : ∀ d ∈ rng 0 (ord.filter fun w => decide (w ∈ lot)).length, ∃ k : Nat, ∃ w, d = .int k ∧ (ord.filter fun w => decide (w ∈ lot))[k]? = some w := fun d hd => by
    obtain ⟨k, hk, rfl⟩ := rng_mem hd
    exact ⟨k, _, rfl, List.getElem?_eq_getElem hk⟩
  have e1 := compF_m (vs := [6]) (fi := rngI1 (consA (opNE lenD (consA (nameE 2) nilA)) nilA)) (gd := nameG 6) (fe := m_law_case_right_e4) (ρ := [.b ns, .d (.tup (ord.map D.str)), .d (.tup (lot.map D.str)), c3, c4, c5, .no, .no, .no]) (ρ0 := [.b ns, .d (.tup (ord.map D.str)), .d (.tup (lot.map D.str)), c3, c4, c5, .no, .no, .no]) (ds := rng 0 (ord.filter fun w => decide (w ∈ lot)).length)
    (fun d => match d with | .int k => (match (ord.filter fun w => decide (w ∈ lot))[k.toNat]? with | some w => D.str w | none => .non) | _ => .non) es rfl (by rw [rng_len]; omega) (fun d hd => by
      obtain ⟨k, w, rfl, hk⟩ := each d hd
      refine ⟨[.b ns, .d (.tup (ord.map D.str)), .d (.tup (lot.map D.str)), c3, c4, c5, .d (.int k), .no, .no], rfl, ?_, rfl⟩
      have ek := kth_best_ok (x := .tup (ord.map D.str)) (y := .tup (lot.map D.str)) rfl rfl hl hin hk
      simp only [Int.toNat_natCast, hk]
      simp [m_law_case_right_e4, Lq.runF, Lq.runB, Lq.runL, Lq.boxAt, Lq.startR, Lq.seqS, Lq.nextS, Lq.ifS, Lq.asgS, Lq.asgM, Lq.asgG, Lq.retS, Lq.retF, Lq.dropS, Lq.forS, Lq.putItem, Lq.isMB, Lq.putS1, Lq.parS, Lq.consMd, Lq.consMf', Lq.noErr, Lq.nilM, Lq.setsR, Lq.nameE, Lq.constE, Lq.op1E, Lq.op2E, Lq.opNE, Lq.opNF, Lq.op2F, Lq.lift1, Lq.lift2, Lq.liftN, Lq.res, Lq.resAll, Lq.valT, Lq.notT, Lq.andT, Lq.orT, Lq.andE, Lq.orE, Lq.notE, Lq.ifE, Lq.consA, Lq.nilA, Lq.frzE, Lq.lstF, Lq.tupE, Lq.callE, Lq.callBE, Lq.callL, Lq.callNew, Lq.slotted, Lq.datAll, Lq.appE, Lq.popE, Lq.yesT, Lq.wipeR, Lq.backR, Lq.plainC, Lq.nameG, Lq.tupG, Lq.consG, Lq.nilG, Lq.seqI, Lq.rngI1, Lq.rngI2, Lq.enumI, Lq.zipI, Lq.isiE, Lq.slE, Lq.aPart, Lq.noPart, Lq.chainE, Lq.strM, Lq.orF, Lq.R.bind, Lq.R.thnO, Lq.raiseS, Lq.raise0S, Lq.tryS, Lq.hNil, Lq.hAs, Lq.goneS, Lq.enumA, Lq.enumK, Lq.ifF, Lq.permA, Lq.permL, Lq.D.noL, Lq.noLs, Lq.isEx, Lq.fldD, Lq.isErrD, Lq.itemsOf, Lq.onlyB, Lq.isB, Lq.D.flat, Lq.addD, Lq.catF, Lq.subD, Lq.negD, Lq.ltD, Lq.leD, Lq.gtD, Lq.geD, Lq.eqD, Lq.neD, Lq.sameKind, Lq.isD, Lq.isntD, Lq.isNon, Lq.lenD, Lq.isiB, Lq.tyName, Lq.notObj, Lq.D.items?, Lq.fits, L2.atI, L2.ixN, ek])
  have e2 := compF_m (vs := [6]) (fi := rngI1 (consA (opNE lenD (consA (nameE 2) nilA)) nilA)) (gd := nameG 6) (fe := m_law_case_right_e5) (ρ := [.b ns, .d (.tup (ord.map D.str)), .d (.tup (lot.map D.str)), c3, c4, c5, .no, .no, .no]) (ρ0 := [.b ns, .d (.tup (ord.map D.str)), .d (.tup (lot.map D.str)), c3, c4, c5, .no, .no, .no]) (ds := rng 0 (ord.filter fun w => decide (w ∈ lot)).length)
    (fun d => match d with | .int k => (match (ord.filter fun w => decide (w ∈ lot))[k.toNat]? with | some w => D.str w | none => .non) | _ => .non) es rfl (by rw [rng_len]; omega) (fun d hd => by
      obtain ⟨k, w, rfl, hk⟩ := each d hd
      refine ⟨[.b ns, .d (.tup (ord.map D.str)), .d (.tup (lot.map D.str)), c3, c4, c5, .d (.int k), .no, .no], rfl, ?_, rfl⟩
      have ek := kth_best_ok (x := .lst (ord.map D.str)) (y := .lst (lot.map D.str)) rfl rfl hl hin hk
      simp only [Int.toNat_natCast, hk]
      simp [m_law_case_right_e5, Lq.runF, Lq.runB, Lq.runL, Lq.boxAt, Lq.startR, Lq.seqS, Lq.nextS, Lq.ifS, Lq.asgS, Lq.asgM, Lq.asgG, Lq.retS, Lq.retF, Lq.dropS, Lq.forS, Lq.putItem, Lq.isMB, Lq.putS1, Lq.parS, Lq.consMd, Lq.consMf', Lq.noErr, Lq.nilM, Lq.setsR, Lq.nameE, Lq.constE, Lq.op1E, Lq.op2E, Lq.opNE, Lq.opNF, Lq.op2F, Lq.lift1, Lq.lift2, Lq.liftN, Lq.res, Lq.resAll, Lq.valT, Lq.notT, Lq.andT, Lq.orT, Lq.andE, Lq.orE, Lq.notE, Lq.ifE, Lq.consA, Lq.nilA, Lq.frzE, Lq.lstF, Lq.tupE, Lq.callE, Lq.callBE, Lq.callL, Lq.callNew, Lq.slotted, Lq.datAll, Lq.appE, Lq.popE, Lq.yesT, Lq.wipeR, Lq.backR, Lq.plainC, Lq.nameG, Lq.tupG, Lq.consG, Lq.nilG, Lq.seqI, Lq.rngI1, Lq.rngI2, Lq.enumI, Lq.zipI, Lq.isiE, Lq.slE, Lq.aPart, Lq.noPart, Lq.chainE, Lq.strM, Lq.orF, Lq.R.bind, Lq.R.thnO, Lq.raiseS, Lq.raise0S, Lq.tryS, Lq.hNil, Lq.hAs, Lq.goneS, Lq.enumA, Lq.enumK, Lq.ifF, Lq.permA, Lq.permL, Lq.D.noL, Lq.noLs, Lq.isEx, Lq.fldD, Lq.isErrD, Lq.itemsOf, Lq.onlyB, Lq.isB, Lq.D.flat, Lq.addD, Lq.catF, Lq.subD, Lq.negD, Lq.ltD, Lq.leD, Lq.gtD, Lq.geD, Lq.eqD, Lq.neD, Lq.sameKind, Lq.isD, Lq.isntD, Lq.isNon, Lq.lenD, Lq.isiB, Lq.tyName, Lq.notObj, Lq.D.items?, Lq.fits, L2.atI, L2.ixN, Lq.listF, ek])
  rw [rng_map] at e1 e2
  exact ⟨e1, e2⟩
end
end Lw
namespace Lw
open PySem Lq
/-! ### refusals; the case; the law -/
section
variable {ns : List Int} {ord lot : List Str} {c3 c4 c5 : Cell}
theorem c6_ok (hl : ord.length ≤ 1000) (hin : ∀ w ∈ lot, w ∈ ord) (hrow : (ord.filter fun w => decide (w ∈ lot)).length = lot.length) : m_law_case_right_c6 [.b ns, .d (.tup (ord.map D.str)), .d (.tup (lot.map D.str)), c3, c4, c5, .no, .no, .no] = .ok ([0, -1, (lot.length : Int) + 1].map fun k => .lst [.int k, .bl true]) [.b ns, .d (.tup (ord.map D.str)), .d (.tup (lot.map D.str)), c3, c4, c5, .no, .no, .no] := by
  have e := compF_m (vs := [6]) (fi := seqI (tupE (consA (constE (.int 0)) (consA (op1E negD (constE (.int 1))) (consA (op2E addD (opNE lenD (consA (nameE 2) nilA)) (constE (.int 1))) nilA))))) (gd := nameG 6) (fe := m_law_case_right_e6) (ρ := [.b ns, .d (.tup (ord.map D.str)), .d (.tup (lot.map D.str)), c3, c4, c5, .no, .no, .no]) (ρ0 := [.b ns, .d (.tup (ord.map D.str)), .d (.tup (lot.map D.str)), c3, c4, c5, .no, .no, .no]) (ds := [0, -1, (lot.length : Int) + 1].map D.int)
    (fun d => match d with | .int k => .lst [.int k, .bl true] | _ => .non) (by simp [Lq.runF, Lq.runB, Lq.runL, Lq.boxAt, Lq.startR, Lq.seqS, Lq.nextS, Lq.ifS, Lq.asgS, Lq.asgM, Lq.asgG, Lq.retS, Lq.retF, Lq.dropS, Lq.forS, Lq.putItem, Lq.isMB, Lq.putS1, Lq.parS, Lq.consMd, Lq.consMf', Lq.noErr, Lq.nilM, Lq.setsR, Lq.nameE, Lq.constE, Lq.op1E, Lq.op2E, Lq.opNE, Lq.opNF, Lq.op2F, Lq.lift1, Lq.lift2, Lq.liftN, Lq.res, Lq.resAll, Lq.valT, Lq.notT, Lq.andT, Lq.orT, Lq.andE, Lq.orE, Lq.notE, Lq.ifE, Lq.consA, Lq.nilA, Lq.frzE, Lq.lstF, Lq.tupE, Lq.callE, Lq.callBE, Lq.callL, Lq.callNew, Lq.slotted, Lq.datAll, Lq.appE, Lq.popE, Lq.yesT, Lq.wipeR, Lq.backR, Lq.plainC, Lq.nameG, Lq.tupG, Lq.consG, Lq.nilG, Lq.seqI, Lq.rngI1, Lq.rngI2, Lq.enumI, Lq.zipI, Lq.isiE, Lq.slE, Lq.aPart, Lq.noPart, Lq.chainE, Lq.strM, Lq.orF, Lq.R.bind, Lq.R.thnO, Lq.raiseS, Lq.raise0S, Lq.tryS, Lq.hNil, Lq.hAs, Lq.goneS, Lq.enumA, Lq.enumK, Lq.ifF, Lq.permA, Lq.permL, Lq.D.noL, Lq.noLs, Lq.isEx, Lq.fldD, Lq.isErrD, Lq.itemsOf, Lq.onlyB, Lq.isB, Lq.D.flat, Lq.addD, Lq.catF, Lq.subD, Lq.negD, Lq.ltD, Lq.leD, Lq.gtD, Lq.geD, Lq.eqD, Lq.neD, Lq.sameKind, Lq.isD, Lq.isntD, Lq.isNon, Lq.lenD, Lq.isiB, Lq.tyName, Lq.notObj, Lq.D.items?, Lq.fits, L2.atI, L2.ixN]) rfl (by simp) (fun d hd => by
      obtain ⟨k, hk, rfl⟩ := List.mem_map.1 hd
      refine ⟨[.b ns, .d (.tup (ord.map D.str)), .d (.tup (lot.map D.str)), c3, c4, c5, .d (.int k), .no, .no], rfl, ?_, rfl⟩
      have hn : k < 1 ∨ ((ord.filter fun w => decide (w ∈ lot)).length : Int) < k := by
        rw [hrow]
        simp only [List.mem_cons, List.not_mem_nil, or_false] at hk
        omega
      have ek := refused_no (kth_best_no (x := .tup (ord.map D.str)) (y := .tup (lot.map D.str)) rfl rfl hl hin hn)
      simp [m_law_case_right_e6, Lq.runF, Lq.runB, Lq.runL, Lq.boxAt, Lq.startR, Lq.seqS, Lq.nextS, Lq.ifS, Lq.asgS, Lq.asgM, Lq.asgG, Lq.retS, Lq.retF, Lq.dropS, Lq.forS, Lq.putItem, Lq.isMB, Lq.putS1, Lq.parS, Lq.consMd, Lq.consMf', Lq.noErr, Lq.nilM, Lq.setsR, Lq.nameE, Lq.constE, Lq.op1E, Lq.op2E, Lq.opNE, Lq.opNF, Lq.op2F, Lq.lift1, Lq.lift2, Lq.liftN, Lq.res, Lq.resAll, Lq.valT, Lq.notT, Lq.andT, Lq.orT, Lq.andE, Lq.orE, Lq.notE, Lq.ifE, Lq.consA, Lq.nilA, Lq.frzE, Lq.lstF, Lq.tupE, Lq.callE, Lq.callBE, Lq.callL, Lq.callNew, Lq.slotted, Lq.datAll, Lq.appE, Lq.popE, Lq.yesT, Lq.wipeR, Lq.backR, Lq.plainC, Lq.nameG, Lq.tupG, Lq.consG, Lq.nilG, Lq.seqI, Lq.rngI1, Lq.rngI2, Lq.enumI, Lq.zipI, Lq.isiE, Lq.slE, Lq.aPart, Lq.noPart, Lq.chainE, Lq.strM, Lq.orF, Lq.R.bind, Lq.R.thnO, Lq.raiseS, Lq.raise0S, Lq.tryS, Lq.hNil, Lq.hAs, Lq.goneS, Lq.enumA, Lq.enumK, Lq.ifF, Lq.permA, Lq.permL, Lq.D.noL, Lq.noLs, Lq.isEx, Lq.fldD, Lq.isErrD, Lq.itemsOf, Lq.onlyB, Lq.isB, Lq.D.flat, Lq.addD, Lq.catF, Lq.subD, Lq.negD, Lq.ltD, Lq.leD, Lq.gtD, Lq.geD, Lq.eqD, Lq.neD, Lq.sameKind, Lq.isD, Lq.isntD, Lq.isNon, Lq.lenD, Lq.isiB, Lq.tyName, Lq.notObj, Lq.D.items?, Lq.fits, L2.atI, L2.ixN, ek])
  rw [List.map_map] at e
  exact e
theorem c8_ok : m_law_case_right_c8 [.b ns, .d (.tup (ord.map D.str)), .d (.tup (lot.map D.str)), c3, c4, c5, .no, .no, .no] = .ok ([0, -1, (lot.length : Int) + 1].map fun k => .lst [.int k, .bl true]) [.b ns, .d (.tup (ord.map D.str)), .d (.tup (lot.map D.str)), c3, c4, c5, .no, .no, .no] := by
  have e := compF_m (vs := [6]) (fi := seqI (tupE (consA (constE (.int 0)) (consA (op1E negD (constE (.int 1))) (consA (op2E addD (opNE lenD (consA (nameE 2) nilA)) (constE (.int 1))) nilA))))) (gd := nameG 6) (fe := m_law_case_right_e8) (ρ := [.b ns, .d (.tup (ord.map D.str)), .d (.tup (lot.map D.str)), c3, c4, c5, .no, .no, .no]) (ρ0 := [.b ns, .d (.tup (ord.map D.str)), .d (.tup (lot.map D.str)), c3, c4, c5, .no, .no, .no]) (ds := [0, -1, (lot.length : Int) + 1].map D.int)
    (fun d => match d with | .int k => .lst [.int k, .bl true] | _ => .non) (by simp [Lq.runF, Lq.runB, Lq.runL, Lq.boxAt, Lq.startR, Lq.seqS, Lq.nextS, Lq.ifS, Lq.asgS, Lq.asgM, Lq.asgG, Lq.retS, Lq.retF, Lq.dropS, Lq.forS, Lq.putItem, Lq.isMB, Lq.putS1, Lq.parS, Lq.consMd, Lq.consMf', Lq.noErr, Lq.nilM, Lq.setsR, Lq.nameE, Lq.constE, Lq.op1E, Lq.op2E, Lq.opNE, Lq.opNF, Lq.op2F, Lq.lift1, Lq.lift2, Lq.liftN, Lq.res, Lq.resAll, Lq.valT, Lq.notT, Lq.andT, Lq.orT, Lq.andE, Lq.orE, Lq.notE, Lq.ifE, Lq.consA, Lq.nilA, Lq.frzE, Lq.lstF, Lq.tupE, Lq.callE, Lq.callBE, Lq.callL, Lq.callNew, Lq.slotted, Lq.datAll, Lq.appE, Lq.popE, Lq.yesT, Lq.wipeR, Lq.backR, Lq.plainC, Lq.nameG, Lq.tupG, Lq.consG, Lq.nilG, Lq.seqI, Lq.rngI1, Lq.rngI2, Lq.enumI, Lq.zipI, Lq.isiE, Lq.slE, Lq.aPart, Lq.noPart, Lq.chainE, Lq.strM, Lq.orF, Lq.R.bind, Lq.R.thnO, Lq.raiseS, Lq.raise0S, Lq.tryS, Lq.hNil, Lq.hAs, Lq.goneS, Lq.enumA, Lq.enumK, Lq.ifF, Lq.permA, Lq.permL, Lq.D.noL, Lq.noLs, Lq.isEx, Lq.fldD, Lq.isErrD, Lq.itemsOf, Lq.onlyB, Lq.isB, Lq.D.flat, Lq.addD, Lq.catF, Lq.subD, Lq.negD, Lq.ltD, Lq.leD, Lq.gtD, Lq.geD, Lq.eqD, Lq.neD, Lq.sameKind, Lq.isD, Lq.isntD, Lq.isNon, Lq.lenD, Lq.isiB, Lq.tyName, Lq.notObj, Lq.D.items?, Lq.fits, L2.atI, L2.ixN]) rfl (by simp) (fun d hd => by
      obtain ⟨k, hk, rfl⟩ := List.mem_map.1 hd
      exact ⟨[.b ns, .d (.tup (ord.map D.str)), .d (.tup (lot.map D.str)), c3, c4, c5, .d (.int k), .no, .no], rfl, by simp [m_law_case_right_e8, Lq.runF, Lq.runB, Lq.runL, Lq.boxAt, Lq.startR, Lq.seqS, Lq.nextS, Lq.ifS, Lq.asgS, Lq.asgM, Lq.asgG, Lq.retS, Lq.retF, Lq.dropS, Lq.forS, Lq.putItem, Lq.isMB, Lq.putS1, Lq.parS, Lq.consMd, Lq.consMf', Lq.noErr, Lq.nilM, Lq.setsR, Lq.nameE, Lq.constE, Lq.op1E, Lq.op2E, Lq.opNE, Lq.opNF, Lq.op2F, Lq.lift1, Lq.lift2, Lq.liftN, Lq.res, Lq.resAll, Lq.valT, Lq.notT, Lq.andT, Lq.orT, Lq.andE, Lq.orE, Lq.notE, Lq.ifE, Lq.consA, Lq.nilA, Lq.frzE, Lq.lstF, Lq.tupE, Lq.callE, Lq.callBE, Lq.callL, Lq.callNew, Lq.slotted, Lq.datAll, Lq.appE, Lq.popE, Lq.yesT, Lq.wipeR, Lq.backR, Lq.plainC, Lq.nameG, Lq.tupG, Lq.consG, Lq.nilG, Lq.seqI, Lq.rngI1, Lq.rngI2, Lq.enumI, Lq.zipI, Lq.isiE, Lq.slE, Lq.aPart, Lq.noPart, Lq.chainE, Lq.strM, Lq.orF, Lq.R.bind, Lq.R.thnO, Lq.raiseS, Lq.raise0S, Lq.tryS, Lq.hNil, Lq.hAs, Lq.goneS, Lq.enumA, Lq.enumK, Lq.ifF, Lq.permA, Lq.permL, Lq.D.noL, Lq.noLs, Lq.isEx, Lq.fldD, Lq.isErrD, Lq.itemsOf, Lq.onlyB, Lq.isB, Lq.D.flat, Lq.addD, Lq.catF, Lq.subD, Lq.negD, Lq.ltD, Lq.leD, Lq.gtD, Lq.geD, Lq.eqD, Lq.neD, Lq.sameKind, Lq.isD, Lq.isntD, Lq.isNon, Lq.lenD, Lq.isiB, Lq.tyName, Lq.notObj, Lq.D.items?, Lq.fits, L2.atI, L2.ixN], rfl⟩)
  rw [List.map_map] at e
  exact e
def z7 : Str := "zzzzzzz"
theorem z7_pool : z7 ∉ pool := by decide +kernel
theorem c7_ok (hl : ord.length ≤ 1000) (hlot : lot.length ≤ 1000) (hin : ∀ w ∈ lot, w ∈ ord) (hz : z7 ∉ ord) : m_law_case_right_c7 [.b ns, .d (.tup (ord.map D.str)), .d (.tup (lot.map D.str)), c3, c4, c5, .no, .no, .no] = .ok (List.replicate 3 (.lst [.str "thing", .str "zzzzzzz", .bl true])) [.b ns, .d (.tup (ord.map D.str)), .d (.tup (lot.map D.str)), c3, c4, c5, .no, .no, .no] := by
  have es := items_sorted (x := .tup ((lot ++ [z7]).map D.str)) rfl
  obtain ⟨l1, l2, hs, h1⟩ := List.eq_append_cons_of_mem (a := z7) (xs := sortStrs (lot ++ [z7])) (sortStrs_mem.2 (by simp))
  have hc := check_on_err (x := .tup (ord.map D.str)) (y := .tup ((sortStrs (lot ++ [z7])).map D.str)) (ord := ord) (sh := sortStrs (lot ++ [z7])) rfl rfl hs (fun z hz => by
    have : z ∈ sortStrs (lot ++ [z7]) := by rw [hs]; exact List.mem_append_left _ hz
    rcases List.mem_append.1 (sortStrs_mem.1 this) with h | h
    · exact hin z h
    · rw [List.mem_singleton.1 h] at hz; exact (h1 hz).elim) hz
  have e := compF_m (vs := [8]) (fi := rngI1 (consA (constE (.int 3)) nilA)) (gd := nameG 8) (fe := m_law_case_right_e7) (ρ := [.b ns, .d (.tup (ord.map D.str)), .d (.tup (lot.map D.str)), c3, c4, c5, .no, .no, .no]) (ρ0 := [.b ns, .d (.tup (ord.map D.str)), .d (.tup (lot.map D.str)), c3, c4, c5, .no, .no, .no]) (ds := rng 0 3)
    (fun _ => .lst [.str "thing", .str "zzzzzzz", .bl true]) (by rfl) rfl (by rw [rng_len]; omega) (fun d hd => by
      obtain ⟨k, hk, rfl⟩ := rng_mem hd
      refine ⟨[.b ns, .d (.tup (ord.map D.str)), .d (.tup (lot.map D.str)), c3, c4, c5, .no, .no, .d (.int k)], rfl, ?_, rfl⟩
      have er := refused_thing (n := 0) (k := k) hc (by omega)
      have ea : addD (.tup (lot.map D.str)) (.tup [.str "zzzzzzz"]) = some (.tup ((lot ++ [z7]).map D.str)) := by
        rw [List.map_append]; exact add_tup (by have := hlot; simp; omega)
      generalize (lot ++ [z7]).map D.str = L at es ea
      generalize (sortStrs (lot ++ [z7])).map D.str = M at es er
      simp [m_law_case_right_e7, Lq.runF, Lq.runB, Lq.runL, Lq.boxAt, Lq.startR, Lq.seqS, Lq.nextS, Lq.ifS, Lq.asgS, Lq.asgM, Lq.asgG, Lq.retS, Lq.retF, Lq.dropS, Lq.forS, Lq.putItem, Lq.isMB, Lq.putS1, Lq.parS, Lq.consMd, Lq.consMf', Lq.noErr, Lq.nilM, Lq.setsR, Lq.nameE, Lq.constE, Lq.op1E, Lq.op2E, Lq.opNE, Lq.opNF, Lq.op2F, Lq.lift1, Lq.lift2, Lq.liftN, Lq.res, Lq.resAll, Lq.valT, Lq.notT, Lq.andT, Lq.orT, Lq.andE, Lq.orE, Lq.notE, Lq.ifE, Lq.consA, Lq.nilA, Lq.frzE, Lq.lstF, Lq.tupE, Lq.callE, Lq.callBE, Lq.callL, Lq.callNew, Lq.slotted, Lq.datAll, Lq.appE, Lq.popE, Lq.yesT, Lq.wipeR, Lq.backR, Lq.plainC, Lq.nameG, Lq.tupG, Lq.consG, Lq.nilG, Lq.seqI, Lq.rngI1, Lq.rngI2, Lq.enumI, Lq.zipI, Lq.isiE, Lq.slE, Lq.aPart, Lq.noPart, Lq.chainE, Lq.strM, Lq.orF, Lq.R.bind, Lq.R.thnO, Lq.raiseS, Lq.raise0S, Lq.tryS, Lq.hNil, Lq.hAs, Lq.goneS, Lq.enumA, Lq.enumK, Lq.ifF, Lq.permA, Lq.permL, Lq.D.noL, Lq.noLs, Lq.isEx, Lq.fldD, Lq.isErrD, Lq.itemsOf, Lq.onlyB, Lq.isB, Lq.D.flat, Lq.addD, Lq.catF, Lq.subD, Lq.negD, Lq.ltD, Lq.leD, Lq.gtD, Lq.geD, Lq.eqD, Lq.neD, Lq.sameKind, Lq.isD, Lq.isntD, Lq.isNon, Lq.lenD, Lq.isiB, Lq.tyName, Lq.notObj, Lq.D.items?, Lq.fits, L2.atI, L2.ixN, -Lq.addD, ea, es, Lq.tupleD, er]
      rfl)
  rw [rng_true] at e
  exact e
end
theorem eq_strs {a b : List Str} (ha : ∀ w ∈ a, w ∈ pool) (hb : ∀ w ∈ b, w ∈ pool) : eqD (.tup (a.map D.str)) (.tup (b.map D.str)) = some (.bl (decide (a = b))) := by
  have hq : ∀ l : List Str, (∀ w ∈ l, w ∈ pool) → okQ (.tup (l.map D.str)) = true := fun l hl => fine_okQ (n := 4) (by
    show ((l.map D.str).all (fine 3)) = true
    exact List.all_eq_true.2 fun d hd => by
      obtain ⟨w, hw, rfl⟩ := List.mem_map.1 hd
      exact fine_pool (hl w hw)) (by decide)
  unfold eqD
  rw [hq a ha, hq b hb]
  have : ∀ a b : List Str, deqs (a.map D.str) (b.map D.str) = decide (a = b) := by
    intro a
    induction a with
    | nil => intro b; cases b <;> simp [deqs]
    | cons x r ih =>
      intro b
      cases b with
      | nil => simp [deqs]
      | cons y s =>
        simp only [List.map_cons, deqs, deq, ih, List.cons.injEq]
        by_cases h : x = y
        · simp [h]
        · simp [h]
  simp [deq, this]
theorem case_ok {k : Nat} {ns : List Int} {ord : List Str} (hb : Bx k ns) (hk : k < 1000000) (hl : ord.length ≤ 100) (hp : ∀ w ∈ ord, w ∈ pool) (hn : ord.Nodup) : ∃ ns', f_law_case_right ns [.tup (ord.map D.str)] = some (.bl true, ns') ∧ Bx (k + ord.length) ns' := by
  obtain ⟨lot, ns', e1, hs, hb'⟩ := c1_ok hb hk (show ord.length ≤ 1000 by omega)
  refine ⟨ns', ?_, hb'⟩
  have hl' : ord.length ≤ 1000 := by omega
  have hin : ∀ w ∈ lot, w ∈ ord := fun w hw => sortStrs_mem.1 (hs.subset hw)
  have hlp : ∀ w ∈ lot, w ∈ pool := fun w hw => hp w (hin w hw)
  have hup : lot.Pairwise LtS := (sortStrs_up hn).sublist hs
  have hln : lot.Nodup := pw_nodup hup
  have hrow : (ord.filter fun w => decide (w ∈ lot)).length = lot.length := by
    have p : (ord.filter fun w => decide (w ∈ lot)).Perm lot := (List.perm_ext_iff_of_nodup (hn.filter _) hln).2 fun w => by
      rw [List.mem_filter, decide_eq_true_eq]
      exact ⟨fun h => h.2, fun h => ⟨hin w h, h⟩⟩
    exact p.length_eq
  have hll : lot.length ≤ 1000 := by have := hs.length_le; rw [sortStrs_len] at this; omega
  have hz : z7 ∉ ord := fun h => z7_pool (hp _ h)
  have e2 := fun c3 c4 c5 => c2_ok (ns := ns') (lot := lot) (c3 := c3) (c4 := c4) (c5 := c5) hl'
  have e3 := fun c3 c4 c5 => c3_ok (ns := ns') (lot := lot) (c3 := c3) (c4 := c4) (c5 := c5) hl'
  have e4 := fun c3 c4 c5 => (c4_ok (ns := ns') (c3 := c3) (c4 := c4) (c5 := c5) hl' hin hrow).1
  have e5 := fun c3 c4 c5 => (c4_ok (ns := ns') (c3 := c3) (c4 := c4) (c5 := c5) hl' hin hrow).2
  have e6 := fun c3 c4 c5 => c6_ok (ns := ns') (c3 := c3) (c4 := c4) (c5 := c5) hl' hin hrow
  have e7 := fun c3 c4 c5 => c7_ok (ns := ns') (c3 := c3) (c4 := c4) (c5 := c5) hl' hll hin hz
  have e8 := fun c3 c4 c5 => c8_ok (ns := ns') (ord := ord) (lot := lot) (c3 := c3) (c4 := c4) (c5 := c5)
  have b1 := by_list_ok (x := .tup (ord.map D.str)) (y := .tup (lot.map D.str)) rfl rfl hl' hin
  have b2 := by_list_ok (x := .lst (ord.map D.str)) (y := .lst (lot.map D.str)) rfl rfl hl' hin
  have p1 := places_on_ok (x := .tup (ord.map D.str)) (y := .tup (lot.map D.str)) rfl rfl hl' hin
  have p2 := places_on_ok (x := .lst (ord.map D.str)) (y := .lst (lot.map D.str)) rfl rfl hl' hin
  have hNo : ∀ w ∈ ord, Nm w := fun w hw => nm_pool (hp w hw)
  have hNl : ∀ w ∈ lot, Nm w := fun w hw => nm_pool (hlp w hw)
  have l1 : f_is_list [.tup (ord.map D.str)] = .ok (.bl true) := by rw [is_list_tup hNo hl', decide_eq_true hn]
  have hnf : (ord.filter fun w => decide (w ∈ lot)).Nodup := hn.filter _
  have l2 : f_is_list [.tup ((ord.filter fun w => decide (w ∈ lot)).map D.str)] = .ok (.bl true) := by
    rw [is_list_tup (fun w hw => hNo w (List.mem_filter.1 hw).1) (Nat.le_trans (List.length_filter_le _ _) hl'), decide_eq_true hnf]
  have l3 : f_is_list [.lst (ord.map D.str)] = .ok (.bl false) := is_list_lst
  have shr : (decide lot.Nodup && (rising lot && lot.all fun w => decide (w ∈ ord))) = true := by
    rw [decide_eq_true hln, rising_pw.2 hup]
    simp only [Bool.true_and]
    exact List.all_eq_true.2 fun w hw => decide_eq_true (hin w hw)
  have s1 : f_is_share [.tup (ord.map D.str), .tup (lot.map D.str)] = .ok (.bl true) := by rw [is_share_tup (ord := ord) rfl hNl hll, shr]
  have s2 : f_is_share [.lst (ord.map D.str), .tup (lot.map D.str)] = .ok (.bl true) := by rw [is_share_tup (ord := ord) rfl hNl hll, shr]
  have s3 : f_is_share [.tup (ord.map D.str), .lst (lot.map D.str)] = .ok (.bl false) := is_share_lst
  have s4 : f_is_share [.tup (lot.map D.str), .tup (ord.map D.str)] = .ok (.bl (decide (ord = lot))) := by
    rw [is_share_tup (ord := lot) rfl hNo hl', decide_eq_true hn, Bool.true_and]
    congr 2
    by_cases h : ord = lot
    · rw [decide_eq_true h, h, rising_pw.2 hup, Bool.true_and]
      exact List.all_eq_true.2 fun w hw => decide_eq_true hw
    · rw [decide_eq_false h]
      rw [Bool.and_eq_false_iff]
      by_cases hr : rising ord = true
      · refine .inr ?_
        rw [Bool.eq_false_iff]
        intro ha
        exact h (pw_ext (rising_pw.1 hr) hup fun w => ⟨fun hw => by simpa using List.all_eq_true.1 ha w hw, hin w⟩)
      · exact .inl (by simpa using hr)
  have q1 := eq_strs hp hlp
  have q2 := eq_strs hp (b := []) (fun w hw => by cases hw)
  have ecut : cutD (.tup (ord.map D.str)) none (some 1) = some (.tup ((ord.take 1).map D.str)) := by
    show some (D.tup (cutL (ord.map D.str) none (some ((1 : Nat) : Int)))) = _
    rw [cutL_to, List.map_take]
  have eadd : addD (.tup (ord.map D.str)) (.tup ((ord.take 1).map D.str)) = some (.tup ((ord ++ ord.take 1).map D.str)) := by
    rw [List.map_append]; exact add_tup (by simp; omega)
  have l4 : f_is_list [.tup ((ord ++ ord.take 1).map D.str)] = .ok (.bl (decide (ord = []))) := by
    rw [is_list_tup (fun w hw => (List.mem_append.1 hw).elim (hNo w) fun h => hNo w (List.mem_of_mem_take h)) (by rw [List.length_append, List.length_take]; omega)]
    congr 2
    cases ord with
    | nil => simp
    | cons w r => simp
  have g1 : good 8 (.lst [.tup ((ord.filter fun w => decide (w ∈ lot)).map D.str), .tup ((placesL ord lot).map D.int), .lst ((ord.filter fun w => decide (w ∈ lot)).map D.str), .tup ((ord.filter fun w => decide (w ∈ lot)).map D.str), .tup ((placesL ord lot).map D.int), .lst ((ord.filter fun w => decide (w ∈ lot)).map D.str)]) = true := by
    have r1 : good 7 (.tup ((ord.filter fun w => decide (w ∈ lot)).map D.str)) = true := good_tup (by rw [List.length_map]; have := List.length_filter_le (fun w => decide (w ∈ lot)) ord; omega) fun x hx => by
      obtain ⟨w, _, rfl⟩ := List.mem_map.1 hx; rfl
    have r2 : good 7 (.lst ((ord.filter fun w => decide (w ∈ lot)).map D.str)) = true := good_lst (by rw [List.length_map]; have := List.length_filter_le (fun w => decide (w ∈ lot)) ord; omega) fun x hx => by
      obtain ⟨w, _, rfl⟩ := List.mem_map.1 hx; rfl
    have r3 : good 7 (.tup ((placesL ord lot).map D.int)) = true := good_tup (by rw [List.length_map, placesL, List.length_map]; have := List.length_filter_le (fun p : Str × Nat => decide (p.1 ∈ lot)) ord.zipIdx; rw [List.length_zipIdx] at this; omega) fun x hx => by
      obtain ⟨w, _, rfl⟩ := List.mem_map.1 hx; rfl
    refine good_lst (by simp) fun x hx => ?_
    simp only [List.mem_cons, List.not_mem_nil, or_false] at hx
    rcases hx with rfl | rfl | rfl | rfl | rfl | rfl <;> assumption
  have sm1 := same_ok 8 _ g1
  have sm2 := same_ok 8 (.lst [.bl true, .bl true, .bl false, .bl true, .bl true, .bl false, .bl (decide (ord = lot)), .bl (decide (ord = []))]) rfl
  have sm3 := same_ok 8 (.lst (([0, -1, (lot.length : Int) + 1].map fun k => .lst [.int k, .bl true]) ++ List.replicate 3 (.lst [.str "thing", .str "zzzzzzz", .bl true]))) rfl
  have em : mulD (.lst [.lst [.str "thing", .str "zzzzzzz", .bl true]]) (.int 3) = some (.lst (List.replicate 3 (.lst [.str "thing", .str "zzzzzzz", .bl true]))) := by rfl
  have hNT : ([0, -1, (lot.length : Int) + 1].map fun k => D.lst [.int k, .bl true]).length + (List.replicate 3 (D.lst [.str "thing", .str "zzzzzzz", .bl true])).length ≤ 1000000 := by simp
  have hOO : (ord.map D.str).length + ((ord.take 1).map D.str).length ≤ 1000000 := by simp; omega
  rw [List.map_append] at l4
  rw [show List.map D.str ([] : List Str) = [] from rfl] at q2
  clear hb' hup hln hrow hlp hNo hNl shr hs hin hnf eadd g1 hz hl' hll hn hp hl hk hb
  generalize List.replicate 3 (D.lst [.str "thing", .str "zzzzzzz", .bl true]) = Th at *
  generalize ([0, -1, (lot.length : Int) + 1].map fun k => D.lst [.int k, .bl true]) = No at *
  generalize (ord.take 1).map D.str = O1 at *
  generalize (ord.filter fun w => decide (w ∈ lot)).map D.str = Ro at *
  generalize (placesL ord lot).map D.int = Pl at *
  generalize decide (ord = lot) = B1 at *
  generalize decide (ord = []) = B2 at *
  generalize ord.map D.str = Od at *
  generalize lot.map D.str = Lo at *
  simp [f_law_case_right, m_law_case_right, Lq.runF, Lq.runB, Lq.runL, Lq.boxAt, Lq.startR, Lq.seqS, Lq.nextS, Lq.ifS, Lq.asgS, Lq.asgM, Lq.asgG, Lq.retS, Lq.retF, Lq.dropS, Lq.forS, Lq.putItem, Lq.isMB, Lq.putS1, Lq.parS, Lq.consMd, Lq.consMf', Lq.noErr, Lq.nilM, Lq.setsR, Lq.nameE, Lq.constE, Lq.op1E, Lq.op2E, Lq.opNE, Lq.opNF, Lq.op2F, Lq.lift1, Lq.lift2, Lq.liftN, Lq.res, Lq.resAll, Lq.valT, Lq.notT, Lq.andT, Lq.orT, Lq.andE, Lq.orE, Lq.notE, Lq.ifE, Lq.consA, Lq.nilA, Lq.frzE, Lq.lstF, Lq.tupE, Lq.callE, Lq.callBE, Lq.callL, Lq.callNew, Lq.slotted, Lq.datAll, Lq.appE, Lq.popE, Lq.yesT, Lq.wipeR, Lq.backR, Lq.plainC, Lq.nameG, Lq.tupG, Lq.consG, Lq.nilG, Lq.seqI, Lq.rngI1, Lq.rngI2, Lq.enumI, Lq.zipI, Lq.isiE, Lq.slE, Lq.aPart, Lq.noPart, Lq.chainE, Lq.strM, Lq.orF, Lq.R.bind, Lq.R.thnO, Lq.raiseS, Lq.raise0S, Lq.tryS, Lq.hNil, Lq.hAs, Lq.goneS, Lq.enumA, Lq.enumK, Lq.ifF, Lq.permA, Lq.permL, Lq.D.noL, Lq.noLs, Lq.isEx, Lq.fldD, Lq.isErrD, Lq.itemsOf, Lq.onlyB, Lq.isB, Lq.D.flat, Lq.addD, Lq.catF, Lq.subD, Lq.negD, Lq.ltD, Lq.leD, Lq.gtD, Lq.geD, Lq.eqD, Lq.neD, Lq.sameKind, Lq.isD, Lq.isntD, Lq.isNon, Lq.lenD, Lq.isiB, Lq.tyName, Lq.notObj, Lq.D.items?, Lq.fits, L2.atI, L2.ixN, -Lq.eqD, e1, e2, e3, e4, e5, e6, e7, e8, b1, b2, p1, p2, l1, l2, l3, l4, s1, s2, s3, s4, q1, q2, ecut, hOO, hNT, em, sm1, sm2, sm3, Lq.listF, Lq.tupleD]
end Lw
namespace Lw
open PySem Lq
/-! ### 8 rounds of the law: `return all([.. for _ in range(8)])` -/
theorem rounds_ok (hh : ∀ {k : Nat} {ns : List Int} (d : D), Bx k ns → k < 100000 → ∃ ns', m_law_right_e1 [.b ns, .d d] = .ok (.d (.bl true)) [.b ns', .d d] ∧ Bx (k + 1000) ns') {ns : List Int} (hb : Bx 0 ns) : ∃ ns', f_law_right ns [] = some (.bl true, ns') := by
  obtain ⟨ρ', e, ns', rfl, _⟩ := compF_inv (vs := [1]) (fi := rngI1 (consA (constE (.int 8)) nilA)) (gd := nameG 1) (fe := m_law_right_e1) (ρ := [.b ns, .no]) (ds := rng 0 8) (fun k ρ => ∃ ns', ρ = [.b ns', .no] ∧ Bx (1000 * k) ns') (D.bl true) 8 (by rfl) rfl (fun k ρ' h => by obtain ⟨ns', rfl, _⟩ := h; rfl) rfl (by rw [rng_len]; decide) (by rw [rng_len]; decide) ⟨ns, rfl, hb⟩ (fun d hd k ρ h hk => by
    obtain ⟨ns1, rfl, h1⟩ := h
    obtain ⟨ns2, e2, h2⟩ := hh d h1 (by omega)
    exact ⟨[.b ns1, .d d], [.b ns2, .d d], rfl, e2, ns2, rfl, by rw [show 1000 * (k + 1) = 1000 * k + 1000 by omega]; exact h2⟩)
  rw [map_yes, rng_len] at e
  have ea := all_true 8
  have ec : m_law_right_c1 [.b ns, .no] = .ok (List.replicate 8 (D.bl true)) [.b ns', .no] := e
  refine ⟨ns', ?_⟩
  generalize List.replicate 8 (D.bl true) = L at ec ea
  simp [f_law_right, m_law_right, Lq.runF, Lq.runB, Lq.runL, Lq.boxAt, Lq.startR, Lq.seqS, Lq.nextS, Lq.ifS, Lq.asgS, Lq.asgM, Lq.asgG, Lq.retS, Lq.retF, Lq.dropS, Lq.forS, Lq.putItem, Lq.isMB, Lq.putS1, Lq.parS, Lq.consMd, Lq.consMf', Lq.noErr, Lq.nilM, Lq.setsR, Lq.nameE, Lq.constE, Lq.op1E, Lq.op2E, Lq.opNE, Lq.opNF, Lq.op2F, Lq.lift1, Lq.lift2, Lq.liftN, Lq.res, Lq.resAll, Lq.valT, Lq.notT, Lq.andT, Lq.orT, Lq.andE, Lq.orE, Lq.notE, Lq.ifE, Lq.consA, Lq.nilA, Lq.frzE, Lq.lstF, Lq.tupE, Lq.callE, Lq.callBE, Lq.callL, Lq.callNew, Lq.slotted, Lq.datAll, Lq.appE, Lq.popE, Lq.yesT, Lq.wipeR, Lq.backR, Lq.plainC, Lq.nameG, Lq.tupG, Lq.consG, Lq.nilG, Lq.seqI, Lq.rngI1, Lq.rngI2, Lq.enumI, Lq.zipI, Lq.isiE, Lq.slE, Lq.aPart, Lq.noPart, Lq.chainE, Lq.strM, Lq.orF, Lq.R.bind, Lq.R.thnO, Lq.raiseS, Lq.raise0S, Lq.tryS, Lq.hNil, Lq.hAs, Lq.goneS, Lq.enumA, Lq.enumK, Lq.ifF, Lq.permA, Lq.permL, Lq.D.noL, Lq.noLs, Lq.isEx, Lq.fldD, Lq.isErrD, Lq.itemsOf, Lq.onlyB, Lq.isB, Lq.D.flat, Lq.addD, Lq.catF, Lq.subD, Lq.negD, Lq.ltD, Lq.leD, Lq.gtD, Lq.geD, Lq.eqD, Lq.neD, Lq.sameKind, Lq.isD, Lq.isntD, Lq.isNon, Lq.lenD, Lq.isiB, Lq.tyName, Lq.notObj, Lq.D.items?, Lq.fits, L2.atI, L2.ixN, ec, ea]
theorem turn_ok {k : Nat} {ns : List Int} (d : D) (hb : Bx k ns) (hk : k < 100000) : ∃ ns', m_law_right_e1 [.b ns, .d d] = .ok (.d (.bl true)) [.b ns', .d d] ∧ Bx (k + 1000) ns' := by
  obtain ⟨r, ns1, e1, g1, g2, hb1⟩ := take_ok hb (n := 8) (by omega) (by omega) (by omega)
  obtain ⟨ws, ns2, e2, h1, h2, h3, hb2⟩ := tags_ok hb1 g1 (by omega) (by omega)
  obtain ⟨ys, ns3, e3, hp, hb3⟩ := mixed_ok (xs := ws.map D.str) hb2 (by rw [List.length_map]; omega) (by omega)
  obtain ⟨vs, rfl, hv⟩ := perm_strs hp
  rw [List.length_map] at hb3
  have hvl := hv.length_eq
  obtain ⟨ns4, e4, hb4⟩ := case_ok (ord := vs) hb3 (by omega) (by omega) (fun w hw => h1 w (hv.mem_iff.1 hw)) (hv.nodup_iff.2 h2)
  refine ⟨ns4, ?_, hb4.mono (by omega)⟩
  simp [m_law_right_e1, Lq.runF, Lq.runB, Lq.runL, Lq.boxAt, Lq.startR, Lq.seqS, Lq.nextS, Lq.ifS, Lq.asgS, Lq.asgM, Lq.asgG, Lq.retS, Lq.retF, Lq.dropS, Lq.forS, Lq.putItem, Lq.isMB, Lq.putS1, Lq.parS, Lq.consMd, Lq.consMf', Lq.noErr, Lq.nilM, Lq.setsR, Lq.nameE, Lq.constE, Lq.op1E, Lq.op2E, Lq.opNE, Lq.opNF, Lq.op2F, Lq.lift1, Lq.lift2, Lq.liftN, Lq.res, Lq.resAll, Lq.valT, Lq.notT, Lq.andT, Lq.orT, Lq.andE, Lq.orE, Lq.notE, Lq.ifE, Lq.consA, Lq.nilA, Lq.frzE, Lq.lstF, Lq.tupE, Lq.callE, Lq.callBE, Lq.callL, Lq.callNew, Lq.slotted, Lq.datAll, Lq.appE, Lq.popE, Lq.yesT, Lq.wipeR, Lq.backR, Lq.plainC, Lq.nameG, Lq.tupG, Lq.consG, Lq.nilG, Lq.seqI, Lq.rngI1, Lq.rngI2, Lq.enumI, Lq.zipI, Lq.isiE, Lq.slE, Lq.aPart, Lq.noPart, Lq.chainE, Lq.strM, Lq.orF, Lq.R.bind, Lq.R.thnO, Lq.raiseS, Lq.raise0S, Lq.tryS, Lq.hNil, Lq.hAs, Lq.goneS, Lq.enumA, Lq.enumK, Lq.ifF, Lq.permA, Lq.permL, Lq.D.noL, Lq.noLs, Lq.isEx, Lq.fldD, Lq.isErrD, Lq.itemsOf, Lq.onlyB, Lq.isB, Lq.D.flat, Lq.addD, Lq.catF, Lq.subD, Lq.negD, Lq.ltD, Lq.leD, Lq.gtD, Lq.geD, Lq.eqD, Lq.neD, Lq.sameKind, Lq.isD, Lq.isntD, Lq.isNon, Lq.lenD, Lq.isiB, Lq.tyName, Lq.notObj, Lq.D.items?, Lq.fits, L2.atI, L2.ixN, e1, e2, e3, e4]
theorem hand_ok : f_law_by_hand_right [] = .ok (.bl true) := isT_of (by decide +kernel)
theorem law_true (ns : List Int) (h : ns.length ≤ 63) : f_law [.scr ns] = .ok (.bl true) := frame hand_ok (fun _ hb => rounds_ok turn_ok hb) h
end Lw
open PySem PySem.W PyProof.Rows
set_option maxHeartbeats 0 in
theorem PySem.Challenge.cw_heirturns_k53_shares_on_lists_holds : PySem.Challenge.rw_heirturns_k53_shares_on_lists.Holds := by
  w_on; o_law; k_head; (case hw => w_witness2)
  k_fill
  refine L2.walk_of (l := PySem.Challenge.rw_heirturns_k53_shares_on_lists) (n := 63) (k := 12) (x := "_law_script") (CX := fun w => L2.CX (PySem.Challenge.rw_heirturns_k53_shares_on_lists).prog w) (sp := fun w => Lq.spA _ 1 Lw.f_law) rfl (by decide) rfl ⟨rfl, by decide, by decide⟩ (fun w h Y => PySem.W.kIn_of Y) ?F (fun _ H a ns hl _ hS T => ⟨H, [.scr ns], L2.Same.refl _, ⟨_, _, rfl, ⟨a, rfl, hS⟩, rfl⟩, rfl, by rw [Lw.law_true ns hl]; exact fun _ _ _ _ r => r⟩) (fun _ _ _ _ _ z => Lq.cx_no z)
  case F =>
    intro w mg fa h KX G hmg
    refine' Lw.fin (Lw.mkTx KX G ?a_is_name ?l_is_name ?c_is_name ?k_is_name ?a_is_rising ?l_is_rising ?c_is_rising ?k_is_rising ?a_is_list ?l_is_list ?c_is_list ?k_is_list ?a_is_share ?l_is_share ?c_is_share ?k_is_share ?a_check_on ?l_check_on ?c_check_on ?k_check_on ?a_by_list ?l_by_list ?c_by_list ?k_by_list ?a_places_on ?l_places_on ?c_places_on ?k_places_on ?a_kth_best ?l_kth_best ?c_kth_best ?k_kth_best ?a_law_box ?l_law_box ?c_law_box ?k_law_box ?a_law_take ?l_law_take ?c_law_take ?k_law_take ?a_law_cells ?l_law_cells ?c_law_cells ?k_law_cells ?a_law_pick ?l_law_pick ?c_law_pick ?k_law_pick ?a_law_same ?l_law_same ?c_law_same ?k_law_same ?a_law_tags ?l_law_tags ?c_law_tags ?k_law_tags ?a_law_mixed ?l_law_mixed ?c_law_mixed ?k_law_mixed ?a_law_refused ?l_law_refused ?c_law_refused ?k_law_refused ?a_law_case_right ?l_law_case_right ?c_law_case_right ?k_law_case_right ?a_law_by_hand_right ?l_law_by_hand_right ?c_law_by_hand_right ?k_law_by_hand_right ?a_law_right ?l_law_right ?c_law_right ?k_law_right ?a_law ?l_law ?c_law ?k_law ?eg_NoThing ?el_NoThing ?esa_NoThing ?eex_NoThing ?ety_NoThing ?ek_NoThing ?ei_NoThing ?eti_NoThing ?eno_NoThing ?ega_NoThing ?egg_NoThing ?ehd_NoThing ?eli_NoThing ?eci_NoThing ?eki_NoThing ?eg_NoNumber ?el_NoNumber ?esa_NoNumber ?eex_NoNumber ?ety_NoNumber ?ek_NoNumber ?ei_NoNumber ?eti_NoNumber ?eno_NoNumber ?ega_NoNumber ?egg_NoNumber ?ehd_NoNumber ?eli_NoNumber ?eci_NoNumber ?eki_NoNumber ?ka_NoThing ?km_NoThing ?ka_NoNumber ?km_NoNumber ?kn ?kt ?gH ?hHd ?hHt ?hHe ?su_H_H ?su_NoThing_H ?su_NoNumber_H ?su_NoThing_NoNumber ?su_NoNumber_NoNumber ?su_NoThing_NoThing ?su_NoNumber_NoThing ?z_abs ?z_all ?z_bool ?z_enumerate ?z_int ?z_isinstance ?z_len ?z_list ?z_min ?z_range ?z_set ?z_sorted ?z_str ?z_tuple ?z_zip ?q_MOST_LETTERS ?q_LETTERS) hmg
    (case a_is_name => k_is); (case l_is_name => k_is); (case c_is_name => k_is); (case k_is_name => k_is); (case a_is_rising => k_is); (case l_is_rising => k_is); (case c_is_rising => k_is); (case k_is_rising => k_is); (case a_is_list => k_is); (case l_is_list => k_is); (case c_is_list => k_is); (case k_is_list => k_is); (case a_is_share => k_is); (case l_is_share => k_is); (case c_is_share => k_is); (case k_is_share => k_is); (case a_check_on => k_is); (case l_check_on => k_is); (case c_check_on => k_is); (case k_check_on => k_is); (case a_by_list => k_is); (case l_by_list => k_is); (case c_by_list => k_is); (case k_by_list => k_is); (case a_places_on => k_is); (case l_places_on => k_is); (case c_places_on => k_is); (case k_places_on => k_is); (case a_kth_best => k_is); (case l_kth_best => k_is); (case c_kth_best => k_is); (case k_kth_best => k_is); (case a_law_box => k_is); (case l_law_box => k_is); (case c_law_box => k_is); (case k_law_box => k_is); (case a_law_take => k_is); (case l_law_take => k_is); (case c_law_take => k_is); (case k_law_take => k_is); (case a_law_cells => k_is); (case l_law_cells => k_is); (case c_law_cells => k_is); (case k_law_cells => k_is); (case a_law_pick => k_is); (case l_law_pick => k_is); (case c_law_pick => k_is); (case k_law_pick => k_is); (case a_law_same => k_is); (case l_law_same => k_is); (case c_law_same => k_is); (case k_law_same => k_is); (case a_law_tags => k_is); (case l_law_tags => k_is); (case c_law_tags => k_is); (case k_law_tags => k_is); (case a_law_mixed => k_is); (case l_law_mixed => k_is); (case c_law_mixed => k_is); (case k_law_mixed => k_is); (case a_law_refused => k_is); (case l_law_refused => k_is); (case c_law_refused => k_is); (case k_law_refused => k_is); (case a_law_case_right => k_is); (case l_law_case_right => k_is); (case c_law_case_right => k_is); (case k_law_case_right => k_is); (case a_law_by_hand_right => k_is); (case l_law_by_hand_right => k_is); (case c_law_by_hand_right => k_is); (case k_law_by_hand_right => k_is); (case a_law_right => k_is); (case l_law_right => k_is); (case c_law_right => k_is); (case k_law_right => k_is); (case a_law => k_is); (case l_law => k_is); (case c_law => k_is); (case k_law => k_is); (case eg_NoThing => k_is); (case el_NoThing => k_is); (case esa_NoThing => k_is); (case eex_NoThing => k_is); (case ety_NoThing => k_is); (case ek_NoThing => k_is); (case ei_NoThing => k_is); (case eti_NoThing => k_is); (case eno_NoThing => k_is); (case ega_NoThing => k_is); (case egg_NoThing => k_is); (case ehd_NoThing => k_is); (case eli_NoThing => k_is); (case eci_NoThing => k_is); (case eki_NoThing => k_is); (case eg_NoNumber => k_is); (case el_NoNumber => k_is); (case esa_NoNumber => k_is); (case eex_NoNumber => k_is); (case ety_NoNumber => k_is); (case ek_NoNumber => k_is); (case ei_NoNumber => k_is); (case eti_NoNumber => k_is); (case eno_NoNumber => k_is); (case ega_NoNumber => k_is); (case egg_NoNumber => k_is); (case ehd_NoNumber => k_is); (case eli_NoNumber => k_is); (case eci_NoNumber => k_is); (case eki_NoNumber => k_is); (case ka_NoThing => k_is); (case km_NoThing => k_is); (case ka_NoNumber => k_is); (case km_NoNumber => k_is); (case kn => k_is); (case kt => k_is); (case gH => k_is); (case hHd => k_is); (case hHt => k_is); (case hHe => k_is); (case su_H_H => k_is); (case su_NoThing_H => k_is); (case su_NoNumber_H => k_is); (case su_NoThing_NoNumber => k_is); (case su_NoNumber_NoNumber => k_is); (case su_NoThing_NoThing => k_is); (case su_NoNumber_NoThing => k_is); (case z_abs => k_is); (case z_all => k_is); (case z_bool => k_is); (case z_enumerate => k_is); (case z_int => k_is); (case z_isinstance => k_is); (case z_len => k_is); (case z_list => k_is); (case z_min => k_is); (case z_range => k_is); (case z_set => k_is); (case z_sorted => k_is); (case z_str => k_is); (case z_tuple => k_is); (case z_zip => k_is); (case q_MOST_LETTERS => k_is); (case q_LETTERS => k_is)
