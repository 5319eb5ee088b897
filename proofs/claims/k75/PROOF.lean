import PyProof.Rows.All
import Wide.All
import OpenK.AllK
import Wide.FinOn
import HandS.ForMost
import HandS.ForExc
import HandS.Lambda
import HandS.TupAny
import HandS.TupMul
import HandS.TupLe
import HandS.Style
import HandS.IsInst
import HandS.Deep
import HandS.Gcd
import HandS.Zip
import HandS.Wide
import HandS.Flow
import HandS.Words
import HandS.ExcCtx
import HandS.HotCalls
import HandS.ExcIs
import HandS.EndTab
import HandS.Text
import KE.SortData
import KE.DataMinMax
import KE.DataCmp
import KE.DataIsa
import KE.DataFind
import KE.DataAny
import KE.Datum
import KE.DatumMore
import KE.DatumOrd
import KE.DatumIndex
import KE.KDictKeyed
import KE.KDictCopyH
import KE.KDictWalk
import KE.KDictLaw
import KE.KDictDisplayH
import KE.KDictList
import KE.KDictSum
import KE.SortCalls
import HandS.CallLocal
import HandS.Head0
import HandS.Head1
import HandS.Head2
import HandS.HeadEnd
import HandS.HeadHook4
import HandS.HeadWalk
import KE.KDictPairs
import HandS.DictEq
import PyProof.ExcBaseAll.ValueError
import KE.KStateDown
import PySem.Challenge.RW_tautlines_k75_whole_likenesses
set_option Elab.async false
set_option linter.all false
set_option maxRecDepth 100000
/-! The layer: a meaning (Res) for each construct over plain data, and the rules that tie it to HandS's judgements. -/
namespace TL
open PySem PySem.Spec PyProof.Rows L2

abbrev D := PyData
/-- the end of a piece of code: a result, an exception of the class named, or nothing is said -/
inductive Res (α : Type) where
  | ok (a : α) | err (c : Str) | stuck
def Res.bind {α β : Type} : Res α → (α → Res β) → Res β
  | .ok a, f => f a
  | .err c, _ => .err c
  | .stuck, _ => .stuck
@[simp] theorem Res.bind_ok {α β : Type} (a : α) (f : α → Res β) : (Res.ok a).bind f = f a := rfl
@[simp] theorem Res.bind_err {α β : Type} (c : Str) (f : α → Res β) : (Res.err c).bind f = .err c := rfl
@[simp] theorem Res.bind_stuck {α β : Type} (f : α → Res β) : (Res.stuck).bind f = .stuck := rfl

/-- what an expression gives: a value, or the object that the own slot i holds -/
inductive RV where
  | val (d : D) | slot (i : Nat)
abbrev Ev := List (Option D)
def RV.get : RV → Ev → Option D
  | .val d, _ => some d
  | .slot i, ev => (ev[i]?).join

/-! ### data on the heap -/
/-- the world that the walk is in: the hashes of texts hang on it -/
class WC where
  w : World
mutual
/-- data as a key of a dict -/
def keyD : PyData → Option NestedKey
  | .none => some .none
  | .bool b => some (.num (if b = true then 1 else 0))
  | .int i => some (.num i)
  | .str x => some (.text x)
  | .tuple ds => (keyDs ds).map .tup
  | .list _ => none
  | .dict _ => none
def keyDs : List PyData → Option (List NestedKey)
  | [] => some []
  | d :: ds => (keyD d).bind fun k => (keyDs ds).map (k :: ·)
end
/-- an entry of a dict: hash, key, value -/
abbrev E3 := Int × V × V
def EntR (p : E3) (e : DictEntry) : Prop := e.hash = p.1 ∧ RelV p.2.1 e.key ∧ RelV p.2.2 e.val
/-- a dict at a -/
def dicO (a : Addr) (ps : List E3) : HO := .ext fun h => ∃ o es ep, h.get? a = some o ∧ o.ExactDict ∧ o.data = .dict es ep ∧ Paired EntR ps es.toList
/-- .. that stands in H, or in the module -/
def DcL (K : PySem.W.Frag) (H : Hp) (a : Addr) (ps : List E3) : Prop := Rd H a (dicO a ps) ∨ ∃ o es ep, K.lookup a = some o ∧ o.ExactDict ∧ o.data = .dict es ep ∧ Paired EntR ps es.toList
/-- a def of the module as a value; an object at an address -/
def fnD (x : Str) : D := .dict [(.dict [], .str x)]
def adD (a : Addr) : D := .dict [(.dict [], .int (a : Nat))]
/-- the script: a list of ints, read alone -/
def scD (ns : List Int) : D := .dict [(.dict [], .list (ns.map PyData.int))]
def fnR [WC] (K : PySem.W.Frag) (mg : Str → Option Value) (F : Hp) (kvs : List (PyData × PyData)) (v : V) : Prop := (∃ x f, kvs = [(.dict [], .str x)] ∧ v = .ref f ∧ mg x = some (.ref f)) ∨ (∃ a : Addr, kvs = [(.dict [], .int (a : Nat))] ∧ v = .ref a) ∨ ∃ (ns : List Int) (a : Addr), kvs = [(.dict [], .list (ns.map PyData.int))] ∧ v = .ref a ∧ SqL K F a (ns.map V.int)
mutual
def Rp [WC] (K : PySem.W.Frag) (mg : Str → Option Value) (F : Hp) : PyData → V → Prop
  | .none, v => v = .non
  | .bool b, v => v = .bl b
  | .int i, v => v = .int i
  | .str x, v => v = .str x
  | .list ds, v => ∃ a vs, v = .ref a ∧ Rd F a (.lst vs) ∧ Rps K mg F ds vs
  | .tuple ds, v => ∃ a vs, v = .ref a ∧ SqT K F a vs ∧ Rps K mg F ds vs
  | .dict kvs, v => fnR K mg F kvs v ∨ ∃ a ps, v = .ref a ∧ (a == sysModules) = false ∧ DcL K F a ps ∧ Rkv K mg F kvs ps ∧ (kvs.map fun p => keyD p.1).Nodup ∧ kvs.length ≤ sizeLine
def Rps [WC] (K : PySem.W.Frag) (mg : Str → Option Value) (F : Hp) : List PyData → List V → Prop
  | [], vs => vs = []
  | d :: ds, vs => ∃ v r, vs = v :: r ∧ Rp K mg F d v ∧ Rps K mg F ds r
def Rkv [WC] (K : PySem.W.Frag) (mg : Str → Option Value) (F : Hp) : List (PyData × PyData) → List E3 → Prop
  | [], ps => ps = []
  | p :: kvs, ps => ∃ e r, ps = e :: r ∧ Rk1 K mg F p e ∧ Rkv K mg F kvs r
def Rk1 [WC] (K : PySem.W.Frag) (mg : Str → Option Value) (F : Hp) : PyData × PyData → E3 → Prop
  | (dk, dv), e => (∃ nk, keyD dk = some nk ∧ nk.depth ≤ 8 ∧ e.1 = nk.hash WC.w) ∧ Rp K mg F dk e.2.1 ∧ Rp K mg F dv e.2.2
end
theorem DcL_mono {K : PySem.W.Frag} {F F' : Hp} {a : Addr} {ps : List E3} (s : Same F F') (h : DcL K F a ps) : DcL K F' a ps := h.imp (fun r => by
  rcases r with h | ⟨o, h⟩
  · exact .inl (s _ _ h)
  · exact .inr ⟨o, s _ _ h⟩) id
theorem Rd_mono {F F' : Hp} (s : Same F F') {a : Addr} {u : HO} (h : Rd F a u) : Rd F' a u := by
  rcases h with h | ⟨o, h⟩
  · exact .inl (s _ _ h)
  · exact .inr ⟨o, s _ _ h⟩
theorem SqT_mono {K : PySem.W.Frag} {F F' : Hp} (s : Same F F') {a : Addr} {xs : List V} (h : SqT K F a xs) : SqT K F' a xs := by
  rcases h with h | h
  · exact .inl (Rd_mono s h)
  · exact .inr h
section
variable [WC] {K : PySem.W.Frag} {mg : Str → Option Value} {F F' : Hp}
mutual
theorem Rp.mono (s : Same F F') : ∀ (d : PyData) (v : V), Rp K mg F d v → Rp K mg F' d v
  | .none, _, h => by simpa only [Rp] using h
  | .bool _, _, h => by simpa only [Rp] using h
  | .int _, _, h => by simpa only [Rp] using h
  | .str _, _, h => by simpa only [Rp] using h
  | .list ds, v, h => by
    simp only [Rp] at h ⊢
    obtain ⟨a, vs, e, q, r⟩ := h
    exact ⟨a, vs, e, Rd_mono s q, Rps.mono s ds vs r⟩
  | .tuple ds, v, h => by
    simp only [Rp] at h ⊢
    obtain ⟨a, vs, e, q, r⟩ := h
    exact ⟨a, vs, e, SqT_mono s q, Rps.mono s ds vs r⟩
  | .dict _, _, h => by
    simp only [Rp] at h ⊢
    rcases h with (h | h | ⟨ns, a, h1, h2, h3⟩) | ⟨a, ps, h1, h2, h3, h4, h5⟩
    · exact .inl (.inl h)
    · exact .inl (.inr (.inl h))
    · exact .inl (.inr (.inr ⟨ns, a, h1, h2, Same.seq s h3⟩))
    · exact .inr ⟨a, ps, h1, h2, DcL_mono s h3, Rkv.mono s _ _ h4, h5⟩
theorem Rps.mono (s : Same F F') : ∀ (ds : List PyData) (vs : List V), Rps K mg F ds vs → Rps K mg F' ds vs
  | [], _, h => by simpa only [Rps] using h
  | d :: ds, vs, h => by
    simp only [Rps] at h ⊢
    obtain ⟨v, r, e, q1, q2⟩ := h
    exact ⟨v, r, e, Rp.mono s d v q1, Rps.mono s ds r q2⟩
theorem Rkv.mono (s : Same F F') : ∀ (ds : List (PyData × PyData)) (vs : List E3), Rkv K mg F ds vs → Rkv K mg F' ds vs
  | [], _, h => by simpa only [Rkv] using h
  | d :: ds, vs, h => by
    simp only [Rkv] at h ⊢
    obtain ⟨v, r, e, q1, q2⟩ := h
    exact ⟨v, r, e, Rk1.mono s d v q1, Rkv.mono s ds r q2⟩
theorem Rk1.mono (s : Same F F') : ∀ (p : PyData × PyData) (e : E3), Rk1 K mg F p e → Rk1 K mg F' p e
  | (dk, dv), e, h => by
    simp only [Rk1] at h ⊢
    exact ⟨h.1, Rp.mono s dk _ h.2.1, Rp.mono s dv _ h.2.2⟩
end
theorem Rps.len : ∀ {ds : List PyData} {vs : List V}, Rps K mg F ds vs → ds.length = vs.length
  | [], vs, h => by simp only [Rps] at h; subst h; rfl
  | d :: ds, vs, h => by
    simp only [Rps] at h
    obtain ⟨v, r, rfl, _, q⟩ := h
    simp [Rps.len q]
theorem Rps.get : ∀ {ds : List PyData} {vs : List V} {i : Nat} {d : D}, Rps K mg F ds vs → ds[i]? = some d → ∃ v, vs[i]? = some v ∧ Rp K mg F d v
  | [], vs, i, d, h, e => by simp at e
  | d0 :: ds, vs, i, d, h, e => by
    simp only [Rps] at h
    obtain ⟨v, r, rfl, q1, q2⟩ := h
    cases i with
    | zero => simp at e; subst e; exact ⟨v, rfl, q1⟩
    | succ i =>
      obtain ⟨v', e', q⟩ := Rps.get (i := i) q2 (by simpa using e)
      exact ⟨v', by simpa using e', q⟩
theorem Rps.append : ∀ {ds es : List PyData} {vs ws : List V}, Rps K mg F ds vs → Rps K mg F es ws → Rps K mg F (ds ++ es) (vs ++ ws)
  | [], es, vs, ws, h, q => by simp only [Rps] at h; subst h; exact q
  | d :: ds, es, vs, ws, h, q => by
    simp only [Rps] at h
    obtain ⟨v, r, rfl, q1, q2⟩ := h
    simp only [List.cons_append, Rps]
    exact ⟨v, r ++ ws, rfl, q1, Rps.append q2 q⟩
theorem Rps.take : ∀ {ds : List PyData} {vs : List V} (n : Nat), Rps K mg F ds vs → Rps K mg F (ds.take n) (vs.take n)
  | [], vs, n, h => by simp only [Rps] at h; subst h; simp [Rps]
  | d :: ds, vs, n, h => by
    simp only [Rps] at h
    obtain ⟨v, r, rfl, q1, q2⟩ := h
    cases n with
    | zero => simp [Rps]
    | succ n => simp only [List.take_succ_cons, Rps]; exact ⟨v, r.take n, rfl, q1, Rps.take n q2⟩
theorem Rps.drop : ∀ {ds : List PyData} {vs : List V} (n : Nat), Rps K mg F ds vs → Rps K mg F (ds.drop n) (vs.drop n)
  | [], vs, n, h => by simp only [Rps] at h; subst h; simp [Rps]
  | d :: ds, vs, n, h => by
    cases n with
    | zero => simpa using h
    | succ n =>
      simp only [Rps] at h
      obtain ⟨v, r, rfl, q1, q2⟩ := h
      simpa using Rps.drop n q2
theorem Rps.one {d : D} {v : V} (h : Rp K mg F d v) : Rps K mg F [d] [v] := by simp only [Rps]; exact ⟨v, [], rfl, h, rfl⟩
theorem Rps.reverse : ∀ {ds : List PyData} {vs : List V}, Rps K mg F ds vs → Rps K mg F ds.reverse vs.reverse
  | [], vs, h => by simp only [Rps] at h; subst h; simp [Rps]
  | d :: ds, vs, h => by
    simp only [Rps] at h
    obtain ⟨v, r, rfl, q1, q2⟩ := h
    simpa using (Rps.reverse q2).append (Rps.one q1)
theorem Rps.ints : ∀ {ns : List Int} {vs : List V}, Rps K mg F (ns.map PyData.int) vs → vs = ns.map V.int
  | [], vs, h => by simpa [Rps] using h
  | n :: ns, vs, h => by
    simp only [List.map_cons, Rps, Rp] at h
    obtain ⟨v, r, rfl, rfl, q⟩ := h
    rw [Rps.ints q]; rfl
theorem Rps.of_get : ∀ {ds : List PyData} {vs : List V}, ds.length = vs.length → (∀ (i : Nat) d v, ds[i]? = some d → vs[i]? = some v → Rp K mg F d v) → Rps K mg F ds vs
  | [], vs, hl, _ => by
    have : vs = [] := List.length_eq_zero_iff.mp hl.symm
    simp only [Rps]; exact this
  | d :: ds, [], hl, _ => by simp at hl
  | d :: ds, v :: vs, hl, h => by
    simp only [Rps]
    exact ⟨v, vs, rfl, h 0 d v rfl rfl, Rps.of_get (by simpa using hl) fun i d' v' e1 e2 => h (i + 1) d' v' (by simpa using e1) (by simpa using e2)⟩
end

/-! ### data is read off the real heap -/
section
variable [WC] {X : Cx} {pins : List (Addr × Obj)} {σ : L2.St} {H : Hp} {s : Shared} {F : Hp}
theorem Inv.lstR {l : Addr} {xs : List V} (I : Inv X pins σ H s) (hH : Rd H l (.lst xs)) : xs.length ≤ sizeLine ∧ ∃ (its : List Value) (n : Nat), Vals xs its ∧ xs.length = its.length ∧ s.heap.get? l = some { cls := .type "list", data := .seq its.toArray n } := by
  obtain ⟨z, its, n, r, e⟩ := hH.ok I.hok
  exact ⟨z, its, n, r, r.length, e⟩
mutual
theorem Rp.reads (I : Inv X pins σ H s) : ∀ (d : PyData) (v : V) (u : Value), d.plain = true → Rp X.K X.mg H d v → RelV v u → ∃ as, Reads s.heap u d as
  | .none, v, u, _, h, r => by simp only [Rp] at h; subst h; cases r; exact ⟨_, .none⟩
  | .bool b, v, u, _, h, r => by simp only [Rp] at h; subst h; cases r; exact ⟨_, .bool b⟩
  | .int i, v, u, _, h, r => by simp only [Rp] at h; subst h; obtain ⟨t, rfl⟩ := r; exact ⟨_, .int i t⟩
  | .str x, v, u, _, h, r => by simp only [Rp] at h; subst h; obtain ⟨t, rfl⟩ := r; exact ⟨_, .str x t⟩
  | .list ds, v, u, p, h, r => by
    simp only [Rp] at h
    obtain ⟨a, vs, rfl, q, rs⟩ := h
    cases r
    obtain ⟨z, its, n, rv, _, e⟩ := Inv.lstR I q
    obtain ⟨as, hr⟩ := Rps.reads I ds vs its (by simpa only [PyData.plain] using p) rs rv
    exact ⟨_, Reads.list e rfl rfl hr⟩
  | .tuple ds, v, u, p, h, r => by
    simp only [Rp] at h
    obtain ⟨a, vs, rfl, q, rs⟩ := h
    cases r
    obtain ⟨its, rv, ⟨o, ho, hc, n, hd⟩, _⟩ := I.tuple q
    obtain ⟨as, hr⟩ := Rps.reads I ds vs its (by simpa only [PyData.plain] using p) rs rv
    exact ⟨_, Reads.tuple ho hc hd hr⟩
  | .dict _, _, _, p, _, _ => by simp [PyData.plain] at p
theorem Rps.reads (I : Inv X pins σ H s) : ∀ (ds : List PyData) (vs : List V) (us : List Value), PyData.plainAll ds = true → Rps X.K X.mg H ds vs → Vals vs us → ∃ as, ReadsAll s.heap us ds as
  | [], vs, us, _, h, r => by simp only [Rps] at h; subst h; cases r; exact ⟨_, .nil⟩
  | d :: ds, vs, us, p, h, r => by
    simp only [Rps] at h
    obtain ⟨v, vr, rfl, q1, q2⟩ := h
    simp only [PyData.plainAll, Bool.and_eq_true] at p
    cases r with
    | cons r1 r2 =>
      obtain ⟨as, h1⟩ := Rp.reads I d v _ p.1 q1 r1
      obtain ⟨bs, h2⟩ := Rps.reads I ds vr _ p.2 q2 r2
      exact ⟨_, .cons h1 h2⟩
end
end

/-! ### the state of a body -/
/-- own: slots that hold an object of the body's own (lists, dicts that it changes); io: parameters whose object the caller owns -/
structure Sx where
  own : Nat → Bool
  io : Nat → Bool
  T : List (Addr × Str)
/-- what the frozen part F, the caller's rest G and the heap H have to do with one another -/
structure Frm (T : List (Addr × Str)) (F G H : Hp) : Prop where
  fh : Same F H
  gh : Same G H
  gf : ∀ a o, F a = some o → G a = none
  nt : ∀ a ps, F a ≠ some (.tbl ps)
  gt : T ≠ [] → ∀ a ps, G a ≠ some (.tbl ps)
  tb : LamX.Tabs T H
def OwnD [WC] (K : PySem.W.Frag) (mg : Str → Option Value) (F H : Hp) (d : D) (a : Addr) : Prop := match d with
  | .list ds => ∃ vs, H a = some (.lst vs) ∧ Rps K mg F ds vs
  | .dict kvs => ∃ ps, H a = some (dicO a ps) ∧ (a == sysModules) = false ∧ Rkv K mg F kvs ps ∧ (kvs.map fun p => keyD p.1).Nodup ∧ kvs.length ≤ sizeLine
  | _ => False
structure Sim [WC] (K : PySem.W.Frag) (mg : Str → Option Value) (S : Sx) (F G : Hp) (P : Nat → Option Addr) (H : Hp) (ev : Ev) (σ : L2.St) : Prop where
  fr : Frm S.T F G H
  len : ev.length = σ.length
  sl : ∀ i d, S.own i = false → ev[i]? = some (some d) → ∃ v, σ[i]? = some (some v) ∧ Rp K mg F d v
  so : ∀ i d, S.own i = true → ev[i]? = some (some d) → ∃ a, σ[i]? = some (some (.ref a)) ∧ OwnD K mg F H d a ∧ F a = none ∧ G a = none
  sp : ∀ i j d e a, S.own i = true → S.own j = true → i ≠ j → ev[i]? = some (some d) → ev[j]? = some (some e) → σ[i]? = some (some (.ref a)) → σ[j]? ≠ some (some (.ref a))
  pn : ∀ i a, P i = some a → S.io i = true ∧ σ[i]? = some (some (.ref a))
def RRv [WC] (K : PySem.W.Frag) (mg : Str → Option Value) (S : Sx) (F : Hp) (σ : L2.St) : RV → V → Prop
  | .val d, v => Rp K mg F d v
  | .slot i, v => S.own i = true ∧ σ[i]? = some (some v)
def RRvs [WC] (K : PySem.W.Frag) (mg : Str → Option Value) (S : Sx) (F : Hp) (σ : L2.St) (rs : List RV) (vs : List V) : Prop := rs.length = vs.length ∧ ∀ (i : Nat) r v, rs[i]? = some r → vs[i]? = some v → RRv K mg S F σ r v
section
variable [WC] {K : PySem.W.Frag} {mg : Str → Option Value} {S : Sx} {F F' G H H' : Hp} {P : Nat → Option Addr} {ev ev' : Ev} {σ : L2.St} {rv : RV} {v : V} {d : D}
theorem RRv.mono (s : Same F F') : ∀ {rv : RV} {v : V}, RRv K mg S F σ rv v → RRv K mg S F' σ rv v
  | .val d, v, h => Rp.mono s d v h
  | .slot _, _, h => h
theorem RRvs.mono (s : Same F F') {rs : List RV} {vs : List V} (h : RRvs K mg S F σ rs vs) : RRvs K mg S F' σ rs vs := ⟨h.1, fun i r v e1 e2 => (h.2 i r v e1 e2).mono s⟩
theorem RRvs.nil : RRvs K mg S F σ [] [] := ⟨rfl, fun i r v e _ => by simp at e⟩
theorem RRvs.cons {rs : List RV} {vs : List V} (h : RRv K mg S F σ rv v) (q : RRvs K mg S F σ rs vs) : RRvs K mg S F σ (rv :: rs) (v :: vs) := ⟨by simp [q.1], fun i r w e1 e2 => by
  cases i with
  | zero => simp at e1 e2; subst e1; subst e2; exact h
  | succ i => exact q.2 i r w (by simpa using e1) (by simpa using e2)⟩
/-- what a value, or the content of an own slot, is on the heap H -/
def Rq (K : PySem.W.Frag) (mg : Str → Option Value) (F H : Hp) : D → V → Prop
  | .list ds, v => ∃ a vs, v = .ref a ∧ Rd H a (.lst vs) ∧ Rps K mg F ds vs
  | .dict kvs, v => fnR K mg F kvs v ∨ ∃ a ps, v = .ref a ∧ (a == sysModules) = false ∧ DcL K H a ps ∧ Rkv K mg F kvs ps ∧ (kvs.map fun p => keyD p.1).Nodup ∧ kvs.length ≤ sizeLine
  | d, v => Rp K mg F d v
theorem Rq.of (s : Same F H) : ∀ {d : D} {v : V}, Rp K mg F d v → Rq K mg F H d v
  | .list ds, v, h => by
    simp only [Rp] at h
    obtain ⟨a, vs, e, q, r⟩ := h
    exact ⟨a, vs, e, Rd_mono s q, r⟩
  | .dict kvs, v, h => by
    simp only [Rp] at h
    exact h.imp id fun ⟨a, ps, h1, h2, h3, h4⟩ => ⟨a, ps, h1, h2, DcL_mono s h3, h4⟩
  | .none, _, h | .bool _, _, h | .int _, _, h | .str _, _, h | .tuple _, _, h => h
theorem Rq.toH (s : Same F H) : ∀ {d : D} {v : V}, Rq K mg F H d v → Rp K mg H d v
  | .list ds, v, h => by
    obtain ⟨a, vs, e, q, r⟩ := h
    simp only [Rp]
    exact ⟨a, vs, e, q, Rps.mono s _ _ r⟩
  | .dict kvs, v, h => by
    have h0 : ∀ {kvs v}, fnR K mg F kvs v → fnR K mg H kvs v := fun {kvs v} h => by
      rcases h with h | h | ⟨ns, a, h1, h2, h3⟩
      · exact .inl h
      · exact .inr (.inl h)
      · exact .inr (.inr ⟨ns, a, h1, h2, Same.seq s h3⟩)
    simp only [Rp]
    exact h.imp h0 fun ⟨a, ps, h1, h2, h3, h4, h5⟩ => ⟨a, ps, h1, h2, h3, Rkv.mono s _ _ h4, h5⟩
  | .none, _, h | .bool _, _, h | .int _, _, h | .str _, _, h | .tuple _, _, h => Rp.mono s _ _ h
omit [WC] in
theorem join_some {α : Type} {o : Option (Option α)} {a : α} (h : o.join = some a) : o = some (some a) := by
  cases o with
  | none => simp at h
  | some x => cases x with
    | none => simp at h
    | some y => simp at h; subst h; rfl
theorem Sim.acc (M : Sim K mg S F G P H ev σ) (r : RRv K mg S F σ rv v) (e : rv.get ev = some d) : Rq K mg F H d v := by
  cases rv with
  | val d' =>
    simp only [RV.get, Option.some.injEq] at e
    subst e
    exact Rq.of M.fr.fh r
  | slot i =>
    obtain ⟨ho, hs⟩ := r
    obtain ⟨a, e1, o, _, _⟩ := M.so i d ho (join_some e)
    rw [hs] at e1
    have e2 : v = .ref a := by simpa using e1
    subst e2
    cases d with
    | list ds => obtain ⟨vs, q, r⟩ := o; exact ⟨a, vs, rfl, .inl q, r⟩
    | dict kvs => obtain ⟨ps, q, r1, r⟩ := o; exact .inr ⟨a, ps, rfl, r1, .inl (.inl q), r⟩
    | _ => exact False.elim o
theorem Sim.accH (M : Sim K mg S F G P H ev σ) (r : RRv K mg S F σ rv v) (e : rv.get ev = some d) : Rp K mg H d v := (M.acc r e).toH M.fr.fh
end

/-! ### the meaning of a piece, as a wish -/
def tM {α : Type} [WC] (K : PySem.W.Frag) (mg : Str → Option Value) (S : Sx) (W : WX) (G : Hp) (P : Nat → Option Addr) (σ : L2.St) (F : Hp) (r : Res (α × Ev)) (post : α → Ev → Hp → Hp → Prop) : Prop := match r with
  | .ok (a, ev') => ∀ F' H', Same F F' → Sim K mg S F' G P H' ev' σ → post a ev' F' H'
  | .err c => ∀ F' H', Same F F' → Frm S.T F' G H' → ∀ f, mg c = some (.ref f) → W (.ref f) none σ H'
  | .stuck => False
section
variable [WC] {α β : Type} {K : PySem.W.Frag} {mg : Str → Option Value} {S : Sx} {W : WX} {F F' G H H' : Hp} {P : Nat → Option Addr} {ev ev' : Ev} {σ : L2.St}
theorem tM.mono {r : Res (α × Ev)} {post : α → Ev → Hp → Hp → Prop} (s : Same F F') (h : tM K mg S W G P σ F r post) : tM K mg S W G P σ F' r post := by
  cases r with
  | ok p => exact fun F2 H2 s2 M => h F2 H2 (s.trans s2) M
  | err c => exact fun F2 H2 s2 M => h F2 H2 (s.trans s2) M
  | stuck => exact h
theorem tM.bind {r : Res (α × Ev)} {k : α × Ev → Res (β × Ev)} {post : β → Ev → Hp → Hp → Prop} (h : tM K mg S W G P σ F (r.bind k) post) :
    tM K mg S W G P σ F r (fun a ev1 F1 H1 => tM K mg S W G P σ F1 (k (a, ev1)) post) := by
  cases r with
  | ok p => exact fun F1 H1 s1 M1 => tM.mono s1 (r := k p) h
  | err c => exact h
  | stuck => exact h
theorem tM.imp {r : Res (α × Ev)} {post post' : α → Ev → Hp → Hp → Prop} (h : tM K mg S W G P σ F r post) (w : ∀ a ev' F' H', r = .ok (a, ev') → Same F F' → Sim K mg S F' G P H' ev' σ → post a ev' F' H' → post' a ev' F' H') : tM K mg S W G P σ F r post' := by
  cases r with
  | ok p => exact fun F1 H1 s1 M1 => w _ _ _ _ rfl s1 M1 (h F1 H1 s1 M1)
  | err c => exact h
  | stuck => exact h
end
abbrev DE := Ev → Res (RV × Ev)
abbrev DT := Ev → Res (Bool × Ev)
abbrev DA := Ev → Res (List RV × Ev)
abbrev DO := Ev → Res (D × Ev)
def tE [WC] (K : PySem.W.Frag) (mg : Str → Option Value) (S : Sx) (W : WX) (m : DE) : TE := fun σ H Q => ∃ F G P ev, Sim K mg S F G P H ev σ ∧ tM K mg S W G P σ F (m ev) fun rv _ F' H' => ∀ v, RRv K mg S F' σ rv v → Q v H'
def tT [WC] (K : PySem.W.Frag) (mg : Str → Option Value) (S : Sx) (W : WX) (m : DT) : TT := fun σ H Q => ∃ F G P ev, Sim K mg S F G P H ev σ ∧ tM K mg S W G P σ F (m ev) fun b _ _ H' => Q b H'
def tA [WC] (K : PySem.W.Frag) (mg : Str → Option Value) (S : Sx) (W : WX) (m : DA) : TA := fun σ H Q => ∃ F G P ev, Sim K mg S F G P H ev σ ∧ tM K mg S W G P σ F (m ev) fun rs _ F' H' => ∀ vs, RRvs K mg S F' σ rs vs → Q vs H'
/-- a fresh object -/
def FreshAt (S : Sx) (ev : Ev) (σ : L2.St) (F G : Hp) (a : Addr) : Prop := F a = none ∧ G a = none ∧ ∀ i d, S.own i = true → ev[i]? = some (some d) → σ[i]? ≠ some (some (.ref a))
def tO [WC] (K : PySem.W.Frag) (mg : Str → Option Value) (S : Sx) (W : WX) (m : DO) : TE := fun σ H Q => ∃ F G P ev, Sim K mg S F G P H ev σ ∧ tM K mg S W G P σ F (m ev) fun d ev' F' H' => ∀ a, OwnD K mg F' H' d a → FreshAt S ev' σ F' G a → Q (.ref a) H'
end TL
namespace L2
open PySem PySem.Spec PyProof.Rows
theorem PE.imp {X : Cx} {e : Expr} {t t' : TE} (h : PE X e t) (w : ∀ σ H Q, t' σ H Q → t σ H Q) : PE X e t' := ⟨fun pins s σ H Q I q => h.run pins s σ H Q I (w _ _ _ q)⟩
theorem PT.imp {X : Cx} {e : Expr} {t t' : TT} (h : PT X e t) (w : ∀ σ H Q, t' σ H Q → t σ H Q) : PT X e t' := ⟨fun pins s σ H Q I q => h.run pins s σ H Q I (w _ _ _ q)⟩
theorem PW.imp {X : Cx} {e : Expr} {t t' : TT} (h : PW X e t) (w : ∀ σ H Q, t' σ H Q → t σ H Q) : PW X e t' := ⟨fun wh pins s σ H Q I q => h.run wh pins s σ H Q I (w _ _ _ q)⟩
theorem PA.imp {X : Cx} {e : List Expr} {t t' : TA} (h : PA X e t) (w : ∀ σ H Q, t' σ H Q → t σ H Q) : PA X e t' := ⟨fun pos pins s σ H Q I q => h.run pos pins s σ H Q I (w _ _ _ q)⟩
theorem PS.imp {X : Cx} {e : Stmt} {t t' : TS} (h : PS X e t) (w : ∀ D σ H, t' D σ H → t D σ H) : PS X e t' := ⟨fun pins s σ H D I q => h.run pins s σ H D I (w _ _ _ q)⟩
theorem PSs.imp {X : Cx} {e : List Stmt} {t t' : TS} (h : PSs X e t) (w : ∀ D σ H, t' D σ H → t D σ H) : PSs X e t' := ⟨fun pins s σ H D I q => h.run pins s σ H D I (w _ _ _ q)⟩
end L2

set_option Elab.async false
set_option linter.all false
set_option maxRecDepth 100000
namespace TL
open PySem PySem.Spec PyProof.Rows L2

/-! ### the heap grows -/
structure Grow (F H F' H' : Hp) : Prop where
  f : Same F F'
  h : Same H H'
  n : ∀ a o, F' a = some o → F a = some o ∨ (H a = none ∧ H' a = some o ∧ ∀ ps, o ≠ .tbl ps)
theorem Grow.refl (F H : Hp) : Grow F H F H := ⟨Same.refl _, Same.refl _, fun _ _ e => .inl e⟩
theorem same_upd {H : Hp} {p : Addr} {o : HO} (hp : H p = none) : Same H (upd H p o) := fun b u e => by rw [upd_ne (ne_of_none e hp)]; exact e
theorem same_none {F H : Hp} (s : Same F H) {p : Addr} (hp : H p = none) : F p = none := s.free hp
/-- a new object, frozen at once -/
theorem Grow.frz {F H : Hp} (s : Same F H) {p : Addr} {o : HO} (hp : H p = none) (ho : ∀ ps, o ≠ .tbl ps) : Grow F H (upd F p o) (upd H p o) :=
  ⟨same_upd (same_none s hp), same_upd hp, fun a u e => by
    by_cases h : a = p
    · subst h; rw [upd_same] at e; cases e; exact .inr ⟨hp, upd_same, ho⟩
    · rw [upd_ne h] at e; exact .inl e⟩
theorem Grow.keep {F H H' : Hp} (s : Same H H') : Grow F H F H' := ⟨Same.refl _, s, fun _ _ e => .inl e⟩
theorem Grow.trans {F H F1 H1 F2 H2 : Hp} (a : Grow F H F1 H1) (b : Grow F1 H1 F2 H2) : Grow F H F2 H2 := ⟨a.f.trans b.f, a.h.trans b.h, fun c o e => by
  rcases b.n c o e with q | ⟨q1, q2, q3⟩
  · rcases a.n c o q with z | ⟨z1, z2, z3⟩
    · exact .inl z
    · exact .inr ⟨z1, b.h _ _ z2, z3⟩
  · exact .inr ⟨same_none a.h q1, q2, q3⟩⟩
/-- a new object that is there already is frozen -/
theorem Grow.late {F H H' : Hp} (s : Same H H') (s0 : Same F H) {p : Addr} {o : HO} (hp : H p = none) (e : H' p = some o) (ho : ∀ ps, o ≠ .tbl ps) : Grow F H (upd F p o) H' :=
  ⟨same_upd (same_none s0 hp), s, fun a u q => by
    by_cases h : a = p
    · subst h; rw [upd_same] at q; cases q; exact .inr ⟨hp, e, ho⟩
    · rw [upd_ne h] at q; exact .inl q⟩
section
variable [WC] {K : PySem.W.Frag} {mg : Str → Option Value} {S : Sx} {T : List (Addr × Str)} {F F' G H H' : Hp} {P : Nat → Option Addr} {ev ev' : Ev} {σ : L2.St}
theorem Frm.grow (f : Frm T F G H) (g : Grow F H F' H') : Frm T F' G H' where
  fh := fun a o e => by
    rcases g.n a o e with q | ⟨_, q, _⟩
    · exact g.h _ _ (f.fh _ _ q)
    · exact q
  gh := f.gh.trans g.h
  gf := fun a o e => by
    rcases g.n a o e with q | ⟨q, _, _⟩
    · exact f.gf _ _ q
    · exact same_none f.gh q
  nt := fun a ps e => by
    rcases g.n a _ e with q | ⟨_, _, q⟩
    · exact f.nt _ _ q
    · exact q ps rfl
  gt := f.gt
  tb := f.tb.ext g.h
theorem OwnD.grow {d : D} {a : Addr} (g : Grow F H F' H') (h : OwnD K mg F H d a) : OwnD K mg F' H' d a := by
  cases d with
  | list ds => obtain ⟨vs, q, r⟩ := h; exact ⟨vs, g.h _ _ q, Rps.mono g.f _ _ r⟩
  | dict kvs => obtain ⟨ps, q, q2, r, z⟩ := h; exact ⟨ps, g.h _ _ q, q2, Rkv.mono g.f _ _ r, z⟩
  | _ => exact False.elim h
theorem OwnD.there {d : D} {a : Addr} (h : OwnD K mg F H d a) : ∃ o, H a = some o ∧ ∀ ps, o ≠ .tbl ps := by
  cases d with
  | list ds => obtain ⟨vs, q, r⟩ := h; exact ⟨_, q, fun ps z => nomatch z⟩
  | dict kvs => obtain ⟨ps, q, r⟩ := h; exact ⟨_, q, fun ps z => nomatch z⟩
  | _ => exact False.elim h
theorem Sim.grow (M : Sim K mg S F G P H ev σ) (g : Grow F H F' H') : Sim K mg S F' G P H' ev σ where
  fr := M.fr.grow g
  len := M.len
  sl := fun i d h e => let ⟨v, e1, r⟩ := M.sl i d h e; ⟨v, e1, Rp.mono g.f _ _ r⟩
  so := fun i d h e => by
    obtain ⟨a, e1, o, f0, g0⟩ := M.so i d h e
    refine ⟨a, e1, o.grow g, ?_, g0⟩
    cases q : F' a with
    | none => rfl
    | some u =>
      rcases g.n a u q with z | ⟨z, _, _⟩
      · rw [f0] at z; cases z
      · obtain ⟨o', e', _⟩ := o.there; rw [z] at e'; cases e'
  sp := M.sp
  pn := M.pn
theorem FreshAt.of {a : Addr} (M : Sim K mg S F G P H ev σ) (h : H a = none) : FreshAt S ev σ F G a := ⟨same_none M.fr.fh h, same_none M.fr.gh h, fun i d ho e z => by
  obtain ⟨b, e1, o, _⟩ := M.so i d ho e
  rw [z] at e1; cases e1
  obtain ⟨u, q, _⟩ := o.there
  rw [h] at q; cases q⟩
theorem OwnD.monoF {d : D} {a : Addr} (s : Same F F') (h : OwnD K mg F H d a) : OwnD K mg F' H d a := by
  cases d with
  | list ds => obtain ⟨vs, q, r⟩ := h; exact ⟨vs, q, Rps.mono s _ _ r⟩
  | dict kvs => obtain ⟨ps, q, q2, r, z⟩ := h; exact ⟨ps, q, q2, Rkv.mono s _ _ r, z⟩
  | _ => exact False.elim h
theorem OwnD.frozen {d : D} {a : Addr} {o : HO} (h : OwnD K mg F H d a) (e : H a = some o) (f0 : F a = none) : Rp K mg (upd F a o) d (.ref a) := by
  have s : Same F (upd F a o) := same_upd f0
  cases d with
  | list ds =>
    obtain ⟨vs, q, r⟩ := h
    rw [e] at q
    cases q
    simp only [Rp]; exact ⟨a, vs, rfl, .inl upd_same, Rps.mono s _ _ r⟩
  | dict kvs =>
    obtain ⟨ps, q, q2, r, z⟩ := h
    rw [e] at q
    cases q
    simp only [Rp]; exact .inr ⟨a, ps, rfl, q2, .inl (.inl upd_same), Rkv.mono s _ _ r, z⟩
  | _ => exact False.elim h
/-- what an own object can be -/
def OwnO (a : Addr) (o : HO) : Prop := (∃ ws, o = .lst ws) ∨ ∃ ps, o = dicO a ps
theorem OwnD.obj {d : D} {a : Addr} (h : OwnD K mg F H d a) : ∃ o, H a = some o ∧ OwnO a o := by
  cases d with
  | list ds => obtain ⟨vs, q, r⟩ := h; exact ⟨_, q, .inl ⟨vs, rfl⟩⟩
  | dict kvs => obtain ⟨ps, q, r⟩ := h; exact ⟨_, q, .inr ⟨ps, rfl⟩⟩
  | _ => exact False.elim h
theorem OwnD.at {H' : Hp} {d : D} {a : Addr} (h : OwnD K mg F H d a) (s : Same F F') (e : ∀ o, H a = some o → H' a = some o) : OwnD K mg F' H' d a := by
  cases d with
  | list ds => obtain ⟨vs, q, r⟩ := h; exact ⟨vs, e _ q, Rps.mono s _ _ r⟩
  | dict kvs => obtain ⟨ps, q, q2, r, z⟩ := h; exact ⟨ps, e _ q, q2, Rkv.mono s _ _ r, z⟩
  | _ => exact False.elim h
theorem OwnD.frz {d : D} {a : Addr} (h : OwnD K mg F H d a) (s : Same F F') (e : ∀ o, H a = some o → F' a = some o) : Rp K mg F' d (.ref a) := by
  cases d with
  | list ds => obtain ⟨vs, q, r⟩ := h; simp only [Rp]; exact ⟨a, vs, rfl, .inl (e _ q), Rps.mono s _ _ r⟩
  | dict kvs => obtain ⟨ps, q, q2, r, z⟩ := h; simp only [Rp]; exact .inr ⟨a, ps, rfl, q2, .inl (.inl (e _ q)), Rkv.mono s _ _ r, z⟩
  | _ => exact False.elim h
/-- freezing a fresh object -/
theorem Sim.freeze {d : D} {a : Addr} (M : Sim K mg S F G P H ev σ) (o : OwnD K mg F H d a) (f : FreshAt S ev σ F G a) : ∃ F', Same F F' ∧ Sim K mg S F' G P H ev σ ∧ Rp K mg F' d (.ref a) := by
  obtain ⟨f0, g0, fs⟩ := f
  obtain ⟨ob, q, nt⟩ := o.there
  have s : Same F (upd F a ob) := same_upd f0
  refine ⟨upd F a ob, s, ⟨⟨fun b u e => ?_, M.fr.gh, fun b u e => ?_, fun b ps e => ?_, M.fr.gt, M.fr.tb⟩, M.len, fun i d h e => ?_, fun i d h e => ?_, M.sp, M.pn⟩, o.frozen q f0⟩
  · by_cases hb : b = a
    · subst hb; rw [upd_same] at e; cases e; exact q
    · rw [upd_ne hb] at e; exact M.fr.fh _ _ e
  · by_cases hb : b = a
    · subst hb; exact g0
    · rw [upd_ne hb] at e; exact M.fr.gf _ _ e
  · by_cases hb : b = a
    · subst hb; rw [upd_same] at e; cases e; exact nt ps rfl
    · rw [upd_ne hb] at e; exact M.fr.nt _ _ e
  · obtain ⟨v, e1, r1⟩ := M.sl i d h e; exact ⟨v, e1, Rp.mono s _ _ r1⟩
  · obtain ⟨b, e1, o1, f1, g1⟩ := M.so i d h e
    have hne : b ≠ a := fun z => fs i d h e (by rw [← z]; exact e1)
    exact ⟨b, e1, o1.monoF s, by rw [upd_ne hne]; exact f1, g1⟩
end

/-! ### operations on data -/
def rV [WC] (K : PySem.W.Frag) (mg : Str → Option Value) (g : D → D → Option D) : R2 := fun x y H Q => ∃ F a b d, Same F H ∧ Rq K mg F H a x ∧ Rq K mg F H b y ∧ g a b = some d ∧ ∀ F' H' v, Grow F H F' H' → Rp K mg F' d v → Q v H'
def rU1 [WC] (K : PySem.W.Frag) (mg : Str → Option Value) (g : D → Option D) : V → Hp → VK → Prop := fun x H Q => ∃ F a d, Same F H ∧ Rq K mg F H a x ∧ g a = some d ∧ ∀ F' H' v, Grow F H F' H' → Rp K mg F' d v → Q v H'
def rVs [WC] (K : PySem.W.Frag) (mg : Str → Option Value) (g : List D → Option D) : List V → Hp → VK → Prop := fun xs H Q => ∃ F as d, Same F H ∧ as.length = xs.length ∧ (∀ (i : Nat) a x, as[i]? = some a → xs[i]? = some x → Rq K mg F H a x) ∧ g as = some d ∧ ∀ F' H' v, Grow F H F' H' → Rp K mg F' d v → Q v H'
/-- a fresh list (or dict) -/
def rO [WC] (K : PySem.W.Frag) (mg : Str → Option Value) (g : D → D → Option D) : R2 := fun x y H Q => ∃ F a b d, Same F H ∧ Rq K mg F H a x ∧ Rq K mg F H b y ∧ g a b = some d ∧ ∀ F' H' p, Grow F H F' H' → H p = none → F' p = none → OwnD K mg F' H' d p → Q (.ref p) H'
def rOs [WC] (K : PySem.W.Frag) (mg : Str → Option Value) (g : List D → Option D) : List V → Hp → VK → Prop := fun xs H Q => ∃ F as d, Same F H ∧ as.length = xs.length ∧ (∀ (i : Nat) a x, as[i]? = some a → xs[i]? = some x → Rq K mg F H a x) ∧ g as = some d ∧ ∀ F' H' p, Grow F H F' H' → H p = none → F' p = none → OwnD K mg F' H' d p → Q (.ref p) H'
theorem OpR.imp {X : Cx} {f : Value → Value → Sem Value} {r r' : R2} (h : OpR X f r) (w : ∀ x y H Q, r' x y H Q → r x y H Q) : OpR X f r' := fun pins s σ H x y v u Q I rx ry q => h pins s σ H x y v u Q I rx ry (w _ _ _ _ q)
theorem UnR.imp {X : Cx} {f : Value → Sem Value} {r r' : V → Hp → VK → Prop} (h : UnR X f r) (w : ∀ x H Q, r' x H Q → r x H Q) : UnR X f r' := fun pins s σ H x v Q I rx q => h pins s σ H x v Q I rx (w _ _ _ q)
theorem CallR.imp {X : Cx} {f : Value} {r r' : List V → Hp → VK → Prop} (h : CallR X f r) (w : ∀ xs H Q, r' xs H Q → r xs H Q) : CallR X f r' := fun pins s σ H xs us Q I rx q => h pins s σ H xs us Q I rx (w _ _ _ q)
def isNone : D → Bool
  | .none => true
  | _ => false
section
variable [WC] {K : PySem.W.Frag} {mg : Str → Option Value} {F H : Hp} {v : V}
theorem Rq.int {i : Int} (h : Rq K mg F H (.int i) v) : v = .int i := by simpa only [Rq, Rp] using h
theorem Rq.bool {b : Bool} (h : Rq K mg F H (.bool b) v) : v = .bl b := by simpa only [Rq, Rp] using h
theorem Rq.str {x : Str} (h : Rq K mg F H (.str x) v) : v = .str x := by simpa only [Rq, Rp] using h
theorem Rq.none (h : Rq K mg F H .none v) : v = .non := by simpa only [Rq, Rp] using h
theorem Rq.list {ds : List D} (h : Rq K mg F H (.list ds) v) : ∃ a vs, v = .ref a ∧ Rd H a (.lst vs) ∧ Rps K mg F ds vs := h
theorem Rq.tuple {ds : List D} (h : Rq K mg F H (.tuple ds) v) : ∃ a vs, v = .ref a ∧ SqT K F a vs ∧ Rps K mg F ds vs := by
  have h : Rp K mg F (.tuple ds) v := h
  simpa only [Rp] using h
theorem rp_int (i : Int) : Rp K mg F (.int i) (.int i) := by simp only [Rp]
theorem rp_bool (i : Bool) : Rp K mg F (.bool i) (.bl i) := by simp only [Rp]
theorem rp_str (i : Str) : Rp K mg F (.str i) (.str i) := by simp only [Rp]
theorem rp_none : Rp K mg F .none .non := by simp only [Rp]
theorem Rq.is_none {d : D} (h : Rq K mg F H d v) : decide (v = .non) = isNone d := by
  cases d with
  | none => rw [h.none]; rfl
  | bool b => rw [h.bool]; rfl
  | int b => rw [h.int]; rfl
  | str b => rw [h.str]; rfl
  | list ds => obtain ⟨a, vs, rfl, _⟩ := h.list; rfl
  | tuple ds => obtain ⟨a, vs, rfl, _⟩ := h.tuple; rfl
  | dict kvs =>
    rcases h with (⟨x, f, _, rfl, _⟩ | ⟨a, _, rfl⟩ | ⟨_, _, _, rfl, _⟩) | ⟨_, _, rfl, _⟩ <;> rfl
end
/-- a new tuple -/
theorem fin_tup [WC] {K : PySem.W.Frag} {mg : Str → Option Value} {F H : Hp} {ds : List D} {vs : List V} {Q : VK} (s : Same F H) (r : Rps K mg F ds vs) (k : ∀ F' H' v, Grow F H F' H' → Rp K mg F' (.tuple ds) v → Q v H') :
    ∀ p, H p = none → Q (.ref p) (upd H p (.tup vs)) := fun p hp => by
  refine k (upd F p (.tup vs)) _ _ (Grow.frz s hp (fun ps z => nomatch z)) ?_
  simp only [Rp]
  exact ⟨p, vs, rfl, .inl (.inl upd_same), Rps.mono (same_upd (same_none s hp)) _ _ r⟩
theorem fin_lst [WC] {K : PySem.W.Frag} {mg : Str → Option Value} {F H : Hp} {ds : List D} {vs : List V} {Q : VK} (s : Same F H) (r : Rps K mg F ds vs) (k : ∀ F' H' v, Grow F H F' H' → Rp K mg F' (.list ds) v → Q v H') :
    ∀ p, H p = none → Q (.ref p) (upd H p (.lst vs)) := fun p hp => by
  refine k (upd F p (.lst vs)) _ _ (Grow.frz s hp (fun ps z => nomatch z)) ?_
  simp only [Rp]
  exact ⟨p, vs, rfl, .inl upd_same, Rps.mono (same_upd (same_none s hp)) _ _ r⟩
theorem fin_own [WC] {K : PySem.W.Frag} {mg : Str → Option Value} {F H : Hp} {ds : List D} {vs : List V} {Q : VK} (s : Same F H) (r : Rps K mg F ds vs) (k : ∀ F' H' p, Grow F H F' H' → H p = none → F' p = none → OwnD K mg F' H' (.list ds) p → Q (.ref p) H') :
    ∀ p, H p = none → Q (.ref p) (upd H p (.lst vs)) := fun p hp => k F _ p (Grow.keep (same_upd hp)) hp (same_none s hp) ⟨vs, upd_same, r⟩

/-! ### + -/
def gAdd : D → D → Option D
  | .int i, .int j => some (.int (i + j))
  | .str x, .str y => if x.length + y.length ≤ sizeLine then some (.str (x ++ y)) else none
  | .tuple xs, .tuple ys => if xs.length + ys.length ≤ sizeLine then some (.tuple (xs ++ ys)) else none
  | .list xs, .list ys => if xs.length + ys.length ≤ sizeLine then some (.list (xs ++ ys)) else none
  | _, _ => none
def gCat : D → D → Option D
  | .list xs, .list ys => if xs.length + ys.length ≤ sizeLine then some (.list (xs ++ ys)) else none
  | _, _ => none
def rCatR : R2 := fun x y H Q => ∃ l b xs zs, x = .ref l ∧ y = .ref b ∧ Rd H l (.lst xs) ∧ Rd H b (.lst zs) ∧ xs.length + zs.length ≤ sizeLine ∧ ∀ p, H p = none → Q (.ref p) (upd H p (.lst (xs ++ zs)))
section
variable [WC] {X : Cx}
theorem op_catR : OpR X (binaryOp .Add) rCatR := by
  intro pins s σ H x y v u Q I rx ry h
  obtain ⟨l, b, xs, zs, rfl, rfl, hH, hB, hz, q⟩ := h
  cases rx
  cases ry
  obtain ⟨z, its, n, r, hl, e⟩ := Inv.lstR I hH
  obtain ⟨z2, its2, n2, r2, hl2, e2⟩ := Inv.lstR I hB
  refine PySem.P.add_list e e2 ?_ (by rw [List.size_toArray, List.size_toArray]; omega)
  have ea : its.toArray ++ its2.toArray = (its ++ its2).toArray := by simp
  rw [ea]
  exact ⟨.ref _, _, I.lnew (t' := s.toks) (r.append r2) (by rw [List.length_append]; omega), rfl, q _ I.fresh⟩
theorem op_gAdd : OpR X (binaryOp .Add) (rV X.K X.mg gAdd) := by
  intro pins s σ H x y v u Q I rx ry h
  obtain ⟨F, a, b, d, sm, ra, rb, e, k⟩ := h
  unfold gAdd at e
  split at e
  · cases e; obtain rfl := ra.int; obtain rfl := rb.int
    exact op_add pins s σ H _ _ v u Q I rx ry ⟨_, _, rfl, rfl, k F H _ (Grow.refl _ _) (rp_int _)⟩
  · split at e
    · cases e; obtain rfl := ra.str; obtain rfl := rb.str
      exact op_add_str pins s σ H _ _ v u Q I rx ry ⟨_, _, rfl, rfl, by assumption, k F H _ (Grow.refl _ _) (rp_str _)⟩
    · cases e
  · split at e
    · cases e
      obtain ⟨p, vs, rfl, h1, r1⟩ := ra.tuple
      obtain ⟨q, ws, rfl, h2, r2⟩ := rb.tuple
      have l1 := r1.len
      have l2 := r2.len
      refine op_catA pins s σ H _ _ v u Q I rx ry ⟨p, q, vs, ws, rfl, rfl, SqT_mono sm h1, SqT_mono sm h2, by omega, fun z => ?_, fun _ z => ?_, fun _ _ => fin_tup sm (r1.append r2) k⟩
      · refine k F H _ (Grow.refl _ _) ?_
        rename_i xs ys _
        have : xs = [] := List.length_eq_zero_iff.mp (by rw [l1, z]; rfl)
        subst this
        simp only [Rp, List.nil_append]; exact ⟨q, ws, rfl, h2, r2⟩
      · refine k F H _ (Grow.refl _ _) ?_
        rename_i xs ys _ _
        have : ys = [] := List.length_eq_zero_iff.mp (by rw [l2, z]; rfl)
        subst this
        simp only [Rp, List.append_nil]; exact ⟨p, vs, rfl, h1, r1⟩
    · cases e
  · split at e
    · cases e
      obtain ⟨p, vs, rfl, h1, r1⟩ := ra.list
      obtain ⟨q, ws, rfl, h2, r2⟩ := rb.list
      have l1 := r1.len
      have l2 := r2.len
      exact op_catR pins s σ H _ _ v u Q I rx ry ⟨p, q, vs, ws, rfl, rfl, h1, h2, by omega, fin_lst sm (r1.append r2) k⟩
    · cases e
  · cases e
theorem op_gCat : OpR X (binaryOp .Add) (rO X.K X.mg gCat) := by
  intro pins s σ H x y v u Q I rx ry h
  obtain ⟨F, a, b, d, sm, ra, rb, e, k⟩ := h
  unfold gCat at e
  split at e
  · split at e
    · cases e
      obtain ⟨p, vs, rfl, h1, r1⟩ := ra.list
      obtain ⟨q, ws, rfl, h2, r2⟩ := rb.list
      have l1 := r1.len
      have l2 := r2.len
      exact op_catR pins s σ H _ _ v u Q I rx ry ⟨p, q, vs, ws, rfl, rfl, h1, h2, by omega, fin_own sm (r1.append r2) k⟩
    · cases e
  · cases e

/-! ### - * // % ** -/
def gSub : D → D → Option D
  | .int i, .int j => some (.int (i - j))
  | _, _ => none
def mulOk (i j : Int) : Bool := (decide (-(2 ^ 64) < i) && decide (i < 2 ^ 64)) || (decide (-(2 ^ 64) < j) && decide (j < 2 ^ 64)) || decide (i.natAbs.log2 + j.natAbs.log2 + 2 ≤ 1000000)
def gMul : D → D → Option D
  | .int i, .int j => if mulOk i j then some (.int (i * j)) else none
  | .tuple xs, .int k => if xs ≠ [] ∧ 2 ≤ k ∧ k ≤ 1000 ∧ xs.length ≤ 1000 then some (.tuple (List.replicate k.toNat xs).flatten) else none
  | _, _ => none
def gFdiv : D → D → Option D
  | .int i, .int j => if j ≠ 0 ∧ j.natAbs < 1073741824 then some (.int (i.fdiv j)) else if 0 < j ∧ j.natAbs.log2 < 9000 then some (.int (i.fdiv j)) else none
  | _, _ => none
def gMod : D → D → Option D
  | .int i, .int j => if j ≠ 0 then some (.int (i.fmod j)) else none
  | _, _ => none
def gPow : D → D → Option D
  | .int i, .int j => if 0 ≤ j ∧ j ≤ 1000000 ∧ i.natAbs < 2 ^ 64 then some (.int (i ^ j.toNat)) else none
  | _, _ => none
theorem op_gSub : OpR X (binaryOp .Sub) (rV X.K X.mg gSub) := by
  intro pins s σ H x y v u Q I rx ry h
  obtain ⟨F, a, b, d, sm, ra, rb, e, k⟩ := h
  unfold gSub at e
  split at e
  · cases e; obtain rfl := ra.int; obtain rfl := rb.int
    exact op_sub pins s σ H _ _ v u Q I rx ry ⟨_, _, rfl, rfl, k F H _ (Grow.refl _ _) (rp_int _)⟩
  · cases e
theorem Rps.flat : ∀ {ds : List D} {vs : List V} (n : Nat) {K : PySem.W.Frag} {mg : Str → Option Value} {F : Hp}, Rps K mg F ds vs → Rps K mg F (List.replicate n ds).flatten (List.replicate n vs).flatten := fun {ds vs} n {K mg F} h => by
  induction n with
  | zero => simp [Rps]
  | succ n ih => simp only [List.replicate_succ, List.flatten_cons]; exact h.append ih
theorem op_gMul : OpR X (binaryOp .Mult) (rV X.K X.mg gMul) := by
  intro pins s σ H x y v u Q I rx ry h
  obtain ⟨F, a, b, d, sm, ra, rb, e, k⟩ := h
  unfold gMul at e
  split at e
  · rename_i i j
    split at e
    · rename_i hm
      cases e; obtain rfl := ra.int; obtain rfl := rb.int
      unfold mulOk at hm
      simp only [Bool.or_eq_true, Bool.and_eq_true, decide_eq_true_eq] at hm
      have fin := k F H _ (Grow.refl _ _) (rp_int (i * j))
      rcases hm with (hm | hm) | hm
      · exact op_mul pins s σ H _ _ v u Q I rx ry ⟨_, _, rfl, rfl, .inl hm, fin⟩
      · exact op_mul pins s σ H _ _ v u Q I rx ry ⟨_, _, rfl, rfl, .inr hm, fin⟩
      · exact op_mulW pins s σ H _ _ v u Q I rx ry ⟨_, _, rfl, rfl, by unfold CMulW; omega, fin⟩
    · cases e
  · split at e
    · rename_i hm
      cases e
      obtain ⟨p, vs, rfl, h1, r1⟩ := ra.tuple
      obtain rfl := rb.int
      have l1 := r1.len
      refine op_repT pins s σ H _ _ v u Q I rx ry ⟨p, _, vs, rfl, rfl, SqT_mono sm h1, fun z => hm.1 (List.length_eq_zero_iff.mp (by rw [l1, z]; rfl)), hm.2.1, hm.2.2.1, by omega, fin_tup sm (r1.flat _) k⟩
    · cases e
  · cases e
theorem op_gFdiv : OpR X (binaryOp .FloorDiv) (rV X.K X.mg gFdiv) := by
  intro pins s σ H x y v u Q I rx ry h
  obtain ⟨F, a, b, d, sm, ra, rb, e, k⟩ := h
  unfold gFdiv at e
  split at e
  · split at e
    · rename_i hm
      cases e; obtain rfl := ra.int; obtain rfl := rb.int
      exact op_fdivN pins s σ H _ _ v u Q I rx ry ⟨_, _, rfl, rfl, hm, k F H _ (Grow.refl _ _) (rp_int _)⟩
    · split at e
      · rename_i hm
        cases e; obtain rfl := ra.int; obtain rfl := rb.int
        refine op_fdivW pins s σ H _ _ v u Q I rx ry ⟨_, _, rfl, rfl, hm, ?_⟩
        have := k F H _ (Grow.refl _ _) (rp_int _)
        rw [Int.fdiv_eq_ediv_of_nonneg _ (by omega)] at this
        exact this
      · cases e
  · cases e
theorem op_gMod : OpR X (binaryOp .Mod) (rV X.K X.mg gMod) := by
  intro pins s σ H x y v u Q I rx ry h
  obtain ⟨F, a, b, d, sm, ra, rb, e, k⟩ := h
  unfold gMod at e
  split at e
  · split at e
    · rename_i hm
      cases e; obtain rfl := ra.int; obtain rfl := rb.int
      exact op_modN pins s σ H _ _ v u Q I rx ry ⟨_, _, rfl, rfl, hm, k F H _ (Grow.refl _ _) (rp_int _)⟩
    · cases e
  · cases e
theorem op_gPow : OpR X (binaryOp .Pow) (rV X.K X.mg gPow) := by
  intro pins s σ H x y v u Q I rx ry h
  obtain ⟨F, a, b, d, sm, ra, rb, e, k⟩ := h
  unfold gPow at e
  split at e
  · split at e
    · rename_i hm
      cases e; obtain rfl := ra.int; obtain rfl := rb.int
      exact op_pow pins s σ H _ _ v u Q I rx ry ⟨_, _, rfl, rfl, hm, k F H _ (Grow.refl _ _) (rp_int _)⟩
    · cases e
  · cases e
def gNeg : D → Option D
  | .int i => some (.int (-i))
  | _ => none
theorem un_gNeg : UnR X (unaryOp .USub) (rU1 X.K X.mg gNeg) := by
  intro pins s σ H x v Q I rx h
  obtain ⟨F, a, d, sm, ra, e, k⟩ := h
  unfold gNeg at e
  split at e
  · cases e; obtain rfl := ra.int
    exact un_neg pins s σ H _ v Q I rx ⟨_, rfl, k F H _ (Grow.refl _ _) (rp_int _)⟩
  · cases e

/-! ### comparisons -/
def okD (d : D) : Bool := d.plain && decide (d.depth ≤ 60)
theorem okD_p {d : D} (h : okD d = true) : d.plain = true ∧ d.depth ≤ 60 := by unfold okD at h; simpa using h
theorem rq_reads {pins : List (Addr × Obj)} {σ : L2.St} {H F : Hp} {s : Shared} (I : Inv X pins σ H s) (sm : Same F H) {d : D} {x : V} {v : Value} (h : Rq X.K X.mg F H d x) (rx : RelV x v) (p : d.plain = true) : ∃ as, Reads s.heap v d as := Rp.reads I d x v p (h.toH sm) rx
def gEq (a b : D) : Option D := if okD a && okD b then some (.bool (PyData.eqv a b)) else none
def gNe (a b : D) : Option D := if okD a && okD b then some (.bool (!PyData.eqv a b)) else none
theorem op_gEq (hu : X.A.units + 64 < cLine) : OpR X (compareOp .Eq) (rV X.K X.mg gEq) := by
  intro pins s σ H x y v u Q I rx ry h
  obtain ⟨F, a, b, d, sm, ra, rb, e, k⟩ := h
  unfold gEq at e
  split at e
  · rename_i hm
    simp only [Bool.and_eq_true] at hm
    cases e
    obtain ⟨p1, d1⟩ := okD_p hm.1
    obtain ⟨p2, d2⟩ := okD_p hm.2
    obtain ⟨as, r1⟩ := rq_reads I sm ra rx p1
    obtain ⟨bs, r2⟩ := rq_reads I sm rb ry p2
    exact PySem.SeqAt.eq_plain r1 r2 p1 p2 (by omega) ⟨.bl _, H, I, rfl, k F H _ (Grow.refl _ _) (rp_bool _)⟩
  · cases e
theorem op_gNe (hu : X.A.units + 64 < cLine) : OpR X (compareOp .NotEq) (rV X.K X.mg gNe) := by
  intro pins s σ H x y v u Q I rx ry h
  obtain ⟨F, a, b, d, sm, ra, rb, e, k⟩ := h
  unfold gNe at e
  split at e
  · rename_i hm
    simp only [Bool.and_eq_true] at hm
    cases e
    obtain ⟨p1, d1⟩ := okD_p hm.1
    obtain ⟨p2, d2⟩ := okD_p hm.2
    obtain ⟨as, r1⟩ := rq_reads I sm ra rx p1
    obtain ⟨bs, r2⟩ := rq_reads I sm rb ry p2
    exact PySem.SeqAt.ne_plain r1 r2 p1 p2 (by omega) ⟨.bl _, H, I, rfl, k F H _ (Grow.refl _ _) (rp_bool _)⟩
  · cases e
end
end TL

set_option Elab.async false
set_option linter.all false
set_option maxRecDepth 100000
/-! dicts: what stands at a frozen or own dict, as the library tells it. -/
namespace TL
open PySem PySem.Spec PyProof.Rows L2

def isTup : D → Bool
  | .tuple _ => true
  | _ => false
def isSc : D → Bool
  | .int _ => true
  | .str _ => true
  | _ => false
/-- the value at a key -/
def dVal (kvs : List (D × D)) (nk : NestedKey) : Option D := (kvs.find? fun p => decide (keyD p.1 = some nk)).map (·.2)
/-- a value put at a key: in its place (the key that stands there stays), or at the end -/
def dPut (kvs : List (D × D)) (nk : NestedKey) (k v : D) : List (D × D) := if (kvs.any fun p => decide (keyD p.1 = some nk)) = true then kvs.map (fun p => if keyD p.1 = some nk then (p.1, v) else p) else kvs ++ [(k, v)]
def dDrop (kvs : List (D × D)) (nk : NestedKey) : List (D × D) := kvs.filter fun p => !decide (keyD p.1 = some nk)
/-- keys of one sort: all tuples, or all ints and texts -/
def sameSort (kvs : List (D × D)) (k : D) : Bool := (isTup k && kvs.all fun p => isTup p.1) || (isSc k && kvs.all fun p => isSc p.1)
def keyOk (kvs : List (D × D)) (k : D) : Option NestedKey := if sameSort kvs k then (keyD k).bind fun nk => if nk.depth ≤ 8 then some nk else none else none
section
variable [WC] {K : PySem.W.Frag} {mg : Str → Option Value} {F F' G H H' : Hp} {a : Addr} {v : V}
def dicR (K : PySem.W.Frag) (mg : Str → Option Value) (F H : Hp) (kvs : List (D × D)) (v : V) : Prop := ∃ a ps, v = .ref a ∧ (a == sysModules) = false ∧ DcL K H a ps ∧ Rkv K mg F kvs ps ∧ (kvs.map fun p => keyD p.1).Nodup ∧ kvs.length ≤ sizeLine
theorem keyOk_p {kvs : List (D × D)} {k : D} {nk : NestedKey} (h : keyOk kvs k = some nk) : keyD k = some nk ∧ nk.depth ≤ 8 ∧ ((isTup k = true ∧ ∀ p ∈ kvs, isTup p.1 = true) ∨ (isSc k = true ∧ ∀ p ∈ kvs, isSc p.1 = true)) := by
  unfold keyOk at h
  split at h
  · rename_i hs
    obtain ⟨x, e, h⟩ := Option.bind_eq_some_iff.mp h
    split at h
    · cases h
      refine ⟨e, by assumption, ?_⟩
      unfold sameSort at hs
      simpa [List.all_eq_true] using hs
    · cases h
  · cases h
/-- keys are told: no special form -/
theorem Rq.dic {kvs : List (D × D)} (h : Rq K mg F H (.dict kvs) v) (hk : ∀ p ∈ kvs, (keyD p.1).isSome = true) : dicR K mg F H kvs v := by
  rcases h with (⟨_, _, z, _⟩ | ⟨_, z, _⟩ | ⟨_, _, z, _⟩) | h
  · subst z; have := hk _ List.mem_cons_self; simp [keyD] at this
  · subst z; have := hk _ List.mem_cons_self; simp [keyD] at this
  · subst z; have := hk _ List.mem_cons_self; simp [keyD] at this
  · exact h
theorem sort_key {kvs : List (D × D)} {k : D} (h : ((isTup k = true ∧ ∀ p ∈ kvs, isTup p.1 = true) ∨ (isSc k = true ∧ ∀ p ∈ kvs, isSc p.1 = true))) (hr : ∃ ps, Rkv K mg F kvs ps) : ∀ p ∈ kvs, (keyD p.1).isSome = true := by
  obtain ⟨ps, hr⟩ := hr
  clear h
  induction kvs generalizing ps with
  | nil => intro p hp; simp at hp
  | cons q kvs ih =>
    simp only [Rkv] at hr
    obtain ⟨e, r, rfl, h1, h2⟩ := hr
    intro p hp
    rcases List.mem_cons.mp hp with rfl | hp
    · obtain ⟨a, b⟩ := p
      simp only [Rk1] at h1
      obtain ⟨⟨nk, e, _⟩, _⟩ := h1
      simp [e]
    · exact ih r h2 p hp
/-- no special form: by the key that is asked -/
theorem Rq.dicK {kvs : List (D × D)} {k : D} {nk : NestedKey} (h : Rq K mg F H (.dict kvs) v) (hk : keyOk kvs k = some nk) : dicR K mg F H kvs v := by
  obtain ⟨_, _, hs⟩ := keyOk_p hk
  rcases h with (⟨_, _, z, _⟩ | ⟨_, z, _⟩ | ⟨_, _, z, _⟩) | h
  · subst z; rcases hs with ⟨_, h⟩ | ⟨_, h⟩ <;> exact absurd (h _ List.mem_cons_self) (by simp [isTup, isSc])
  · subst z; rcases hs with ⟨_, h⟩ | ⟨_, h⟩ <;> exact absurd (h _ List.mem_cons_self) (by simp [isTup, isSc])
  · subst z; rcases hs with ⟨_, h⟩ | ⟨_, h⟩ <;> exact absurd (h _ List.mem_cons_self) (by simp [isTup, isSc])
  · exact h
end
/-! ### read off the real heap -/
section
variable [WC] {X : Cx} {pins : List (Addr × Obj)} {σ : L2.St} {H : Hp} {s : Shared} {F : Hp}
theorem dic_raw {a : Addr} {ps : List E3} (I : Inv X pins σ H s) (h : DcL X.K H a ps) : ∃ o es ep, s.heap.get? a = some o ∧ o.ExactDict ∧ o.data = .dict es ep ∧ Paired EntR ps es.toList := by
  rcases h with h | ⟨o, es, ep, h1, h2⟩
  · have := h.ok I.hok
    exact this.1
  · exact ⟨o, es, ep, I.kIn a o h1, h2⟩
mutual
theorem nested_of (I : Inv X pins σ H s) : ∀ (d : PyData) (v : V) (u : Value) (nk : NestedKey), keyD d = some nk → Rp X.K X.mg H d v → RelV v u → NestedIs s.heap nk u
  | .none, v, u, nk, e, h, r => by simp only [Rp] at h; subst h; cases r; cases e; exact .none
  | .bool b, v, u, nk, e, h, r => by simp only [Rp] at h; subst h; cases r; cases e; exact .bool rfl
  | .int i, v, u, nk, e, h, r => by simp only [Rp] at h; subst h; obtain ⟨t, rfl⟩ := r; cases e; exact .int i t
  | .str x, v, u, nk, e, h, r => by simp only [Rp] at h; subst h; obtain ⟨t, rfl⟩ := r; cases e; exact .text x t
  | .list ds, v, u, nk, e, h, r => by cases e
  | .dict ds, v, u, nk, e, h, r => by cases e
  | .tuple ds, v, u, nk, e, h, r => by
    have e : (keyDs ds).map NestedKey.tup = some nk := by simpa only [keyD] using e
    obtain ⟨ks, e1, rfl⟩ := Option.map_eq_some_iff.mp e
    simp only [Rp] at h
    obtain ⟨a, vs, rfl, q, rs⟩ := h
    cases r
    obtain ⟨its, rv, ⟨o, ho, hc, n, hd⟩, _⟩ := I.tuple q
    exact .tup ho hc hd (nesteds_of I ds vs its ks e1 rs rv)
theorem nesteds_of (I : Inv X pins σ H s) : ∀ (ds : List PyData) (vs : List V) (us : List Value) (ks : List NestedKey), keyDs ds = some ks → Rps X.K X.mg H ds vs → Vals vs us → NestedAll s.heap ks us
  | [], vs, us, ks, e, h, r => by simp only [Rps] at h; subst h; cases r; cases e; exact .nil
  | d :: ds, vs, us, ks, e, h, r => by
    simp only [Rps] at h
    obtain ⟨v, vr, rfl, q1, q2⟩ := h
    have e : ((keyD d).bind fun k => (keyDs ds).map (k :: ·)) = some ks := by simpa only [keyDs] using e
    obtain ⟨k, e1, e⟩ := Option.bind_eq_some_iff.mp e
    obtain ⟨kr, e2, rfl⟩ := Option.map_eq_some_iff.mp e
    cases r with
    | cons r1 r2 => exact .cons (nested_of I d v _ k e1 q1 r1) (nesteds_of I ds vr _ kr e2 q2 r2)
end
/-- a pair of data and a pair of the library's -/
def KR {κ : Type} (K : PySem.W.Frag) (mg : Str → Option Value) (F : Hp) (em : κ → NestedKey) (p : D × D) (q : κ × Value) : Prop := keyD p.1 = some (em q.1) ∧ ∃ v, Rp K mg F p.2 v ∧ RelV v q.2
def RelD (K : PySem.W.Frag) (mg : Str → Option Value) (F : Hp) : Option D → Option Value → Prop
  | some d, some u => ∃ v, Rp K mg F d v ∧ RelV v u
  | none, none => True
  | _, _ => False
theorem kr_val {κ : Type} [DecidableEq κ] {em : κ → NestedKey} (inj : ∀ a b, em a = em b → a = b) {K : PySem.W.Frag} {mg : Str → Option Value} {F : Hp} (k : κ) {kvs : List (D × D)} {vs : List (κ × Value)} (h : Paired (KR K mg F em) kvs vs) : RelD K mg F (dVal kvs (em k)) (valueAt vs k) := by
  induction h with
  | nil => exact True.intro
  | @cons p q ps qs h t ih =>
    obtain ⟨h1, h2⟩ := h
    by_cases e : q.1 = k
    · have a : dVal (p :: ps) (em k) = some p.2 := by simp [dVal, List.find?_cons, h1, e]
      have b : valueAt (q :: qs) k = some q.2 := by simp [valueAt, List.find?_cons, e]
      rw [a, b]; exact h2
    · have a : dVal (p :: ps) (em k) = dVal ps (em k) := by
        have : decide (keyD p.1 = some (em k)) = false := decide_eq_false fun z => by rw [h1] at z; exact e (inj _ _ (Option.some.inj z))
        unfold dVal
        rw [List.find?_cons, this]
      have b : valueAt (q :: qs) k = valueAt qs k := by simp [valueAt, List.find?_cons, e]
      rw [a, b]; exact ih
theorem kr_nodup {κ : Type} {em : κ → NestedKey} {K : PySem.W.Frag} {mg : Str → Option Value} {F : Hp} {kvs : List (D × D)} {vs : List (κ × Value)} (h : Paired (KR K mg F em) kvs vs) (hn : (kvs.map fun p => keyD p.1).Nodup) : (vs.map (·.1)).Nodup := by
  have e : kvs.map (fun p => keyD p.1) = (vs.map (·.1)).map fun k => some (em k) := by
    clear hn
    induction h with
    | nil => rfl
    | cons h t ih => rw [List.map_cons, List.map_cons, List.map_cons, ih, h.1]
  rw [e] at hn
  exact List.Pairwise.of_map _ (fun a b h z => h (by rw [z])) hn
/-- a pair of data and an entry whose key is a tuple at an address -/
def KA (K : PySem.W.Frag) (mg : Str → Option Value) (F : Hp) (p : D × D) (x : NestedKey × Addr × Value) : Prop := keyD p.1 = some x.1 ∧ x.1.depth ≤ 8 ∧ Rp K mg F p.1 (.ref x.2.1) ∧ ∃ v, Rp K mg F p.2 v ∧ RelV v x.2.2
theorem ka_kr {K : PySem.W.Frag} {mg : Str → Option Value} {F : Hp} {kvs : List (D × D)} {xs : List (NestedKey × Addr × Value)} (h : Paired (KA K mg F) kvs xs) : Paired (KR K mg F id) kvs (pairsH xs) := by
  induction h with
  | nil => exact .nil
  | cons h t ih => exact .cons ⟨h.1, h.2.2.2⟩ ih
/-- tuple keys -/
theorem keyed_ents (I : Inv X pins σ H s) (hw : X.w = WC.w) (sm : Same F H) : ∀ {kvs : List (D × D)} {ps : List E3} {es : List DictEntry}, Rkv X.K X.mg F kvs ps → Paired EntR ps es → (∀ p ∈ kvs, isTup p.1 = true) →
    ∃ xs : List (NestedKey × Addr × Value), es = xs.map (entryOfKey (nestedKind X.prog X.w)) ∧ (∀ x ∈ xs, (nestedKind X.prog X.w).is s.heap x.1 x.2.1) ∧ Paired (KA X.K X.mg F) kvs xs
  | [], ps, es, h, r, _ => by
    simp only [Rkv] at h; subst h; cases r
    exact ⟨[], rfl, fun x hx => by simp at hx, .nil⟩
  | (dk, dv) :: kvs, ps, es, h, r, ht => by
    simp only [Rkv, Rk1] at h
    obtain ⟨e, ps', rfl, ⟨⟨nk, k1, k2, k3⟩, rk, rv⟩, h2⟩ := h
    cases r with
    | @cons _ b _ es' r1 r2 =>
      obtain ⟨xs, x1, x2, x3⟩ := keyed_ents I hw sm h2 r2 fun p hp => ht p (List.mem_cons_of_mem _ hp)
      have hd := ht _ List.mem_cons_self
      obtain ⟨z1, z2, z3⟩ := r1
      obtain ⟨ds, rfl⟩ : ∃ ds, dk = .tuple ds := by
        cases dk with
        | tuple ds => exact ⟨ds, rfl⟩
        | _ => cases hd
      have nis := nested_of I _ _ _ nk k1 (Rp.mono sm _ _ rk) z2
      have rk' := rk
      simp only [Rp] at rk'
      obtain ⟨ad, vs, ev, _⟩ := rk'
      rw [ev] at z2
      rw [ev] at rk
      have z2 : b.key = .ref ad := z2
      refine ⟨(nk, ad, b.val) :: xs, ?_, fun x hx => ?_, .cons ⟨k1, k2, rk, _, rv, z3⟩ x3⟩
      · rw [List.map_cons, ← x1]
        congr 1
        show b = ⟨(nestedKind X.prog X.w).hash nk, .ref ad, b.val⟩
        have : b.hash = nk.hash X.w := by rw [z1, k3, hw]
        cases b
        simp only at this z2
        rw [this, z2]
        rfl
      · rcases List.mem_cons.mp hx with rfl | hx
        · exact ⟨by rw [← z2]; exact nis, k2⟩
        · exact x2 x hx
theorem keyed_of (I : Inv X pins σ H s) (hw : X.w = WC.w) (sm : Same F H) {kvs : List (D × D)} {ps : List E3} {a : Addr} (hd : DcL X.K H a ps) (h : Rkv X.K X.mg F kvs ps) (hn : (kvs.map fun p => keyD p.1).Nodup) (ht : ∀ p ∈ kvs, isTup p.1 = true) :
    ∃ xs : List (NestedKey × Addr × Value), s.heap.DictOfH (nestedKind X.prog X.w) a xs ∧ Paired (KA X.K X.mg F) kvs xs := by
  obtain ⟨o, es, ep, e1, e2, e3, e4⟩ := dic_raw I hd
  obtain ⟨xs, x1, x2, x3⟩ := keyed_ents I hw sm h e4 ht
  refine ⟨xs, ⟨o, es, ep, e1, e2, e3, x1, x2, ?_⟩, x3⟩
  have := kr_nodup (ka_kr x3) hn
  unfold pairsH at this
  rw [List.map_map] at this
  exact this
/-- keys that are ints and texts -/
def emK : Key → NestedKey
  | .inl i => .num i
  | .inr x => .text x
theorem emK_inj (a b : Key) (h : emK a = emK b) : a = b := by
  cases a with
  | inl i => cases b with
    | inl j => injection h with h; rw [h]
    | inr y => cases h
  | inr x => cases b with
    | inl j => cases h
    | inr y => injection h with h; rw [h]
theorem sc_key {d : D} (h : isSc d = true) : ∃ k : Key, keyD d = some (emK k) ∧ ∀ {K : PySem.W.Frag} {mg : Str → Option Value} {F : Hp} {v : V}, Rp K mg F d v → v = kV k := by
  cases d with
  | int i => exact ⟨.inl i, rfl, fun {K mg F v} r => by show v = V.int i; simpa only [Rp] using r⟩
  | str x => exact ⟨.inr x, rfl, fun {K mg F v} r => by show v = V.str x; simpa only [Rp] using r⟩
  | _ => cases h
theorem mix_ents (hw : X.w = WC.w) : ∀ {kvs : List (D × D)} {ps : List E3} {es : List DictEntry}, Rkv X.K X.mg F kvs ps → Paired EntR ps es → (∀ p ∈ kvs, isSc p.1 = true) →
    ∃ vs : List (Key × Value), (∀ e ∈ es, ∃ k, (mixKind X.prog X.w).is k e.key = true ∧ e.hash = (mixKind X.prog X.w).hash k) ∧ Pairs (mixKind X.prog X.w) es vs ∧ Paired (KR X.K X.mg F emK) kvs vs
  | [], ps, es, h, r, _ => by
    simp only [Rkv] at h; subst h; cases r
    exact ⟨[], fun x hx => by simp at hx, .nil, .nil⟩
  | (dk, dv) :: kvs, ps, es, h, r, ht => by
    simp only [Rkv, Rk1] at h
    obtain ⟨e, ps', rfl, ⟨⟨nk, k1, k2, k3⟩, rk, rv⟩, h2⟩ := h
    cases r with
    | @cons _ b _ es' r1 r2 =>
      obtain ⟨vs, x1, x2, x3⟩ := mix_ents hw h2 r2 fun p hp => ht p (List.mem_cons_of_mem _ hp)
      obtain ⟨k, q1, q2⟩ := sc_key (ht _ List.mem_cons_self)
      obtain ⟨z1, z2, z3⟩ := r1
      rw [q2 rk] at z2
      have q1' : nk = emK k := by rw [k1] at q1; exact Option.some.inj q1
      have hk : (mixKind X.prog X.w).is k b.key = true := kV_is z2
      have hh : b.hash = (mixKind X.prog X.w).hash k := by
        rw [z1, k3, q1', ← hw]
        cases k <;> rfl
      refine ⟨(k, b.val) :: vs, fun x hx => ?_, .cons hk rfl x2, .cons ⟨q1, _, rv, z3⟩ x3⟩
      rcases List.mem_cons.mp hx with rfl | hx
      · exact ⟨k, hk, hh⟩
      · exact x1 x hx
theorem mix_of (I : Inv X pins σ H s) (hw : X.w = WC.w) {kvs : List (D × D)} {ps : List E3} {a : Addr} (hd : DcL X.K H a ps) (h : Rkv X.K X.mg F kvs ps) (hn : (kvs.map fun p => keyD p.1).Nodup) (ht : ∀ p ∈ kvs, isSc p.1 = true) :
    ∃ vs : List (Key × Value), s.heap.DictOf (mixKind X.prog X.w) a vs ∧ Paired (KR X.K X.mg F emK) kvs vs := by
  obtain ⟨o, es, ep, e1, e2, e3, e4⟩ := dic_raw I hd
  obtain ⟨vs, x1, x2, x3⟩ := mix_ents hw h e4 ht
  exact ⟨vs, ⟨o, es, ep, e1, e2, e3, fun e he => x1 e (by simpa using he), x2, kr_nodup x3 hn⟩, x3⟩
/-! ### operations -/
theorem a_in1 {A : Around} (h : A.units + 64 < cLine) {prog : Program} {w : World} : (nestedKind prog w).room A.in1 := by
  show A.units + 1 + 8 < cLine
  omega
theorem tup_ref {d : D} {x : V} {u : Value} (h : isTup d = true) (r : Rp X.K X.mg H d x) (rx : RelV x u) : ∃ b, x = .ref b ∧ u = .ref b := by
  cases d with
  | tuple ds => simp only [Rp] at r; obtain ⟨b, vs, rfl, _⟩ := r; exact ⟨b, rfl, rx⟩
  | _ => cases h
theorem tup_is (I : Inv X pins σ H s) {d : D} {x : V} {b : Addr} {nk : NestedKey} (e : keyD d = some nk) (hd : nk.depth ≤ 8) (r : Rp X.K X.mg H d x) (rx : RelV x (.ref b)) : (nestedKind X.prog X.w).is s.heap nk b := ⟨nested_of I d x _ nk e r rx, hd⟩
theorem sc_is {d : D} {x : V} {u : Value} (h : isSc d = true) (r : Rp X.K X.mg H d x) (rx : RelV x u) : ∃ k : Key, keyD d = some (emK k) ∧ (mixKind X.prog X.w).is k u = true := by
  obtain ⟨k, e, q⟩ := sc_key h
  exact ⟨k, e, kV_is (by rw [← q r]; exact rx)⟩
theorem rel_isSome {K : PySem.W.Frag} {mg : Str → Option Value} {F : Hp} {o : Option D} {u : Option Value} (h : RelD K mg F o u) : u.isSome = o.isSome := by
  cases o <;> cases u <;> first | rfl | exact h.elim
theorem dic_in {kvs : List (D × D)} {v x : V} {vu xu : Value} {kd : D} {nk : NestedKey} {E : Value → Shared → Prop} {Q : Value → Shared → Prop} (I : Inv X pins σ H s) (hw : X.w = WC.w) (hu : X.A.units + 64 < cLine) (sm : Same F H) (hd : dicR X.K X.mg F H kvs v) (rv : RelV v vu)
    (hk : keyOk kvs kd = some nk) (rk : Rq X.K X.mg F H kd x) (rx : RelV x xu) (hQ : ∀ tk, Q (.bool (dVal kvs nk).isSome) { s with toks := tk }) : wpAny (model X.prog X.w) X.A (compareOp .In xu vu) Q E s := by
  obtain ⟨a, ps, rfl, hs, hc, hr, hn, _⟩ := hd
  obtain ⟨k1, k2, k3⟩ := keyOk_p hk
  have rk := rk.toH sm
  cases rv
  rcases k3 with ⟨t1, t2⟩ | ⟨t1, t2⟩
  · obtain ⟨xs, x1, x2⟩ := keyed_of I hw sm hc hr hn t2
    obtain ⟨b, rfl, rfl⟩ := tup_ref t1 rk rx
    refine in_keyed (knd := nestedKind X.prog X.w) (k := nk) (a_in1 hu) (tup_is I k1 k2 rk rx) hs ⟨xs, x1, rfl⟩ ?_
    rw [rel_isSome (kr_val (em := id) (fun _ _ e => e) nk (ka_kr x2))]
    exact hQ _
  · obtain ⟨vs, x1, x2⟩ := mix_of I hw hc hr hn t2
    obtain ⟨k, e1, e2⟩ := sc_is t1 rk rx
    have e3 : nk = emK k := by rw [k1] at e1; exact Option.some.inj e1
    subst e3
    refine wpAny_in_of e2 hs x1.mapOf ?_
    rw [rel_isSome (kr_val emK_inj k x2)]
    exact hQ _
theorem dic_notIn {kvs : List (D × D)} {v x : V} {vu xu : Value} {kd : D} {nk : NestedKey} {E : Value → Shared → Prop} {Q : Value → Shared → Prop} (I : Inv X pins σ H s) (hw : X.w = WC.w) (hu : X.A.units + 64 < cLine) (sm : Same F H) (hd : dicR X.K X.mg F H kvs v) (rv : RelV v vu)
    (hk : keyOk kvs kd = some nk) (rk : Rq X.K X.mg F H kd x) (rx : RelV x xu) (hQ : ∀ tk, Q (.bool (!(dVal kvs nk).isSome)) { s with toks := tk }) : wpAny (model X.prog X.w) X.A (compareOp .NotIn xu vu) Q E s := by
  obtain ⟨a, ps, rfl, hs, hc, hr, hn, _⟩ := hd
  obtain ⟨k1, k2, k3⟩ := keyOk_p hk
  have rk := rk.toH sm
  cases rv
  rcases k3 with ⟨t1, t2⟩ | ⟨t1, t2⟩
  · obtain ⟨xs, x1, x2⟩ := keyed_of I hw sm hc hr hn t2
    obtain ⟨b, rfl, rfl⟩ := tup_ref t1 rk rx
    refine notIn_keyed (knd := nestedKind X.prog X.w) (k := nk) (a_in1 hu) (tup_is I k1 k2 rk rx) hs ⟨xs, x1, rfl⟩ ?_
    rw [rel_isSome (kr_val (em := id) (fun _ _ e => e) nk (ka_kr x2))]
    exact hQ _
  · obtain ⟨vs, x1, x2⟩ := mix_of I hw hc hr hn t2
    obtain ⟨k, e1, e2⟩ := sc_is t1 rk rx
    have e3 : nk = emK k := by rw [k1] at e1; exact Option.some.inj e1
    subst e3
    refine wpAny_notIn_of e2 hs x1.mapOf ?_
    rw [rel_isSome (kr_val emK_inj k x2)]
    exact hQ _
theorem rel_some {K : PySem.W.Frag} {mg : Str → Option Value} {F : Hp} {d : D} {u : Option Value} (h : RelD K mg F (some d) u) : ∃ w v, u = some w ∧ Rp K mg F d v ∧ RelV v w := by
  cases u with
  | none => exact h.elim
  | some w => obtain ⟨v, h1, h2⟩ := h; exact ⟨w, v, rfl, h1, h2⟩
theorem rel_none {K : PySem.W.Frag} {mg : Str → Option Value} {F : Hp} {u : Option Value} (h : RelD K mg F none u) : u = none := by
  cases u with
  | none => rfl
  | some w => exact h.elim
/-- d[k], there -/
theorem dic_item {kvs : List (D × D)} {v x : V} {vu xu : Value} {kd d : D} {nk : NestedKey} {E : Value → Shared → Prop} {Q : Value → Shared → Prop} (I : Inv X pins σ H s) (hw : X.w = WC.w) (hu : X.A.units + 64 < cLine) (sm : Same F H) (hd : dicR X.K X.mg F H kvs v) (rv : RelV v vu)
    (hk : keyOk kvs kd = some nk) (rk : Rq X.K X.mg F H kd x) (rx : RelV x xu) (hv : dVal kvs nk = some d) (hQ : ∀ tk w y, Rp X.K X.mg F d y → RelV y w → Q w { s with toks := tk }) : wpAny (model X.prog X.w) X.A (getItem vu xu) Q E s := by
  obtain ⟨a, ps, rfl, hs, hc, hr, hn, _⟩ := hd
  obtain ⟨k1, k2, k3⟩ := keyOk_p hk
  have rk := rk.toH sm
  cases rv
  rcases k3 with ⟨t1, t2⟩ | ⟨t1, t2⟩
  · obtain ⟨xs, x1, x2⟩ := keyed_of I hw sm hc hr hn t2
    obtain ⟨b, rfl, rfl⟩ := tup_ref t1 rk rx
    have rd := kr_val (em := id) (fun _ _ e => e) nk (ka_kr x2)
    simp only [id] at rd
    rw [hv] at rd
    obtain ⟨w, y, e1, e2, e3⟩ := rel_some rd
    exact getItem_keyed (knd := nestedKind X.prog X.w) (k := nk) (a_in1 hu) (tup_is I k1 k2 rk rx) ⟨xs, x1, rfl⟩ e1 (hQ _ w y e2 e3)
  · obtain ⟨vs, x1, x2⟩ := mix_of I hw hc hr hn t2
    obtain ⟨k, e1, e2⟩ := sc_is t1 rk rx
    have e3 : nk = emK k := by rw [k1] at e1; exact Option.some.inj e1
    subst e3
    have rd := kr_val emK_inj k x2
    rw [hv] at rd
    obtain ⟨w, y, q1, q2, q3⟩ := rel_some rd
    exact wpAny_getItem_of e2 x1.mapOf q1 (hQ _ w y q2 q3)
/-! ### stores -/
theorem ka_any {K : PySem.W.Frag} {mg : Str → Option Value} {F : Hp} {kvs : List (D × D)} {xs : List (NestedKey × Addr × Value)} (nk : NestedKey) (h : Paired (KA K mg F) kvs xs) : (kvs.any fun p => decide (keyD p.1 = some nk)) = (atKey xs nk).isSome := by
  induction h with
  | nil => rfl
  | @cons p x ps xs h t ih =>
    rw [List.any_cons, ih, h.1]
    by_cases e : x.1 = nk
    · simp [atKey, List.find?_cons, e]
    · have e' : ¬ (some x.1 = some nk) := fun z => e (Option.some.inj z)
      simp only [decide_eq_false e', Bool.false_or]
      simp [atKey, List.find?_cons, e]
theorem ka_put {K : PySem.W.Frag} {mg : Str → Option Value} {F : Hp} {kvs : List (D × D)} {xs : List (NestedKey × Addr × Value)} {nk : NestedKey} {kd dv : D} {b : Addr} {v : V} {u : Value} (h : Paired (KA K mg F) kvs xs) (e1 : keyD kd = some nk) (e2 : nk.depth ≤ 8) (rk : Rp K mg F kd (.ref b)) (rd : Rp K mg F dv v) (rv : RelV v u) :
    Paired (KA K mg F) (dPut kvs nk kd dv) (storedH xs nk b u) := by
  unfold dPut storedH
  rw [ka_any nk h]
  by_cases c : (atKey xs nk).isSome = true
  · rw [if_pos c, if_pos c]
    clear c
    induction h with
    | nil => exact .nil
    | @cons p x ps xs h t ih =>
      rw [List.map_cons, List.map_cons]
      refine .cons ?_ ih
      unfold putAt
      rw [h.1]
      by_cases e : x.1 = nk
      · rw [if_pos (by rw [e]), if_pos e]; exact ⟨h.1, h.2.1, h.2.2.1, v, rd, rv⟩
      · rw [if_neg (fun z => e (Option.some.inj z)), if_neg e]; exact h
  · rw [if_neg c, if_neg c]; exact Paired.snoc h ⟨e1, e2, rk, v, rd, rv⟩
theorem ka_drop {K : PySem.W.Frag} {mg : Str → Option Value} {F : Hp} {kvs : List (D × D)} {xs : List (NestedKey × Addr × Value)} {nk : NestedKey} (h : Paired (KA K mg F) kvs xs) : Paired (KA K mg F) (dDrop kvs nk) (withoutH xs nk) := by
  unfold dDrop withoutH
  induction h with
  | nil => exact .nil
  | @cons p x ps xs h t ih =>
    rw [List.filter_cons, List.filter_cons, h.1]
    by_cases e : x.1 = nk
    · rw [if_neg (by simp [e]), if_neg (by simp [e])]; exact ih
    · have e' : ¬ (some x.1 = some nk) := fun z => e (Option.some.inj z)
      rw [if_pos (by simp [e']), if_pos (by simp [e])]; exact .cons h ih
theorem ka_back {P : Program} {w : World} (hw : w = WC.w) {K : PySem.W.Frag} {mg : Str → Option Value} {F : Hp} {kvs : List (D × D)} {xs : List (NestedKey × Addr × Value)} (h : Paired (KA K mg F) kvs xs) : ∃ ps, Rkv K mg F kvs ps ∧ Paired EntR ps (xs.map (entryOfKey (nestedKind P w))) := by
  induction h with
  | nil => exact ⟨[], by simp only [Rkv], .nil⟩
  | @cons p x ps xs h t ih =>
    obtain ⟨es, h1, h2⟩ := ih
    obtain ⟨k1, k2, k3, v, k4, k5⟩ := h
    refine ⟨(x.1.hash WC.w, .ref x.2.1, v) :: es, ?_, .cons ⟨?_, rfl, k5⟩ h2⟩
    · simp only [Rkv]
      exact ⟨_, es, rfl, by obtain ⟨a, b⟩ := p; simp only [Rk1]; exact ⟨⟨x.1, k1, k2, rfl⟩, k3, k4⟩, h1⟩
    · show x.1.hash w = _
      rw [hw]
theorem kr_any {κ : Type} [DecidableEq κ] {em : κ → NestedKey} (inj : ∀ a b, em a = em b → a = b) {K : PySem.W.Frag} {mg : Str → Option Value} {F : Hp} (k : κ) {kvs : List (D × D)} {vs : List (κ × Value)} (h : Paired (KR K mg F em) kvs vs) : (kvs.any fun p => decide (keyD p.1 = some (em k))) = vs.any fun q => decide (q.1 = k) := by
  induction h with
  | nil => rfl
  | @cons p x ps xs h t ih =>
    rw [List.any_cons, List.any_cons, ih, h.1]
    congr 1
    rw [decide_eq_decide]
    exact ⟨fun z => inj _ _ (Option.some.inj z), fun z => by rw [z]⟩
theorem kr_put {κ : Type} [DecidableEq κ] {em : κ → NestedKey} (inj : ∀ a b, em a = em b → a = b) {K : PySem.W.Frag} {mg : Str → Option Value} {F : Hp} {k : κ} {kvs : List (D × D)} {vs : List (κ × Value)} {kd dv : D} {v : V} {u : Value} (h : Paired (KR K mg F em) kvs vs) (e1 : keyD kd = some (em k)) (rd : Rp K mg F dv v) (rv : RelV v u) :
    Paired (KR K mg F em) (dPut kvs (em k) kd dv) (stored vs k u) := by
  unfold dPut stored
  rw [kr_any inj k h]
  by_cases c : (vs.any fun q => decide (q.1 = k)) = true
  · rw [if_pos c, if_pos c]
    clear c
    induction h with
    | nil => exact .nil
    | @cons p x ps xs h t ih =>
      rw [List.map_cons, List.map_cons]
      refine .cons ?_ ih
      rw [h.1]
      by_cases e : x.1 = k
      · rw [if_pos (by rw [e]), if_pos e]; exact ⟨h.1, v, rd, rv⟩
      · rw [if_neg (fun z => e (inj _ _ (Option.some.inj z))), if_neg e]; exact h
  · rw [if_neg c, if_neg c]; exact Paired.snoc h ⟨e1, v, rd, rv⟩
theorem kr_drop {κ : Type} [DecidableEq κ] {em : κ → NestedKey} (inj : ∀ a b, em a = em b → a = b) {K : PySem.W.Frag} {mg : Str → Option Value} {F : Hp} {k : κ} {kvs : List (D × D)} {vs : List (κ × Value)} (h : Paired (KR K mg F em) kvs vs) : Paired (KR K mg F em) (dDrop kvs (em k)) (without vs k) := by
  unfold dDrop without
  induction h with
  | nil => exact .nil
  | @cons p x ps xs h t ih =>
    rw [List.filter_cons, List.filter_cons, h.1]
    by_cases e : x.1 = k
    · rw [if_neg (by simp [e]), if_neg (by simp [e])]; exact ih
    · have e' : ¬ (some (em x.1) = some (em k)) := fun z => e (inj _ _ (Option.some.inj z))
      rw [if_pos (by simp [e']), if_pos (by simp [e])]; exact .cons h ih
theorem mix_back (hw : X.w = WC.w) {kvs : List (D × D)} {vs : List (Key × Value)} {es : List DictEntry} (h : Paired (KR X.K X.mg F emK) kvs vs) (hp : Pairs (mixKind X.prog X.w) es vs) (hk : ∀ e ∈ es, ∃ k, (mixKind X.prog X.w).is k e.key = true ∧ e.hash = (mixKind X.prog X.w).hash k) (hs : ∀ p ∈ kvs, isSc p.1 = true) : ∃ ps, Rkv X.K X.mg F kvs ps ∧ Paired EntR ps es := by
  induction h generalizing es with
  | nil => cases hp; exact ⟨[], by simp only [Rkv], .nil⟩
  | @cons p x ps xs h t ih =>
    cases hp with
    | @cons e _ es' _ hi hv hp =>
      obtain ⟨qs, h1, h2⟩ := ih hp (fun e he => hk e (List.mem_cons_of_mem _ he)) (fun p hp => hs p (List.mem_cons_of_mem _ hp))
      obtain ⟨e1, v, rd, rv⟩ := h
      obtain ⟨k2, i2, hh⟩ := hk e List.mem_cons_self
      have ek : k2 = x.1 := (mixKind X.prog X.w).inj _ _ _ i2 hi
      subst ek
      refine ⟨(e.hash, kV x.1, v) :: qs, ?_, .cons ⟨rfl, ?_, by rw [hv]; exact rv⟩ h2⟩
      · simp only [Rkv]
        refine ⟨_, qs, rfl, ?_, h1⟩
        obtain ⟨a, b⟩ := p
        simp only [Rk1]
        refine ⟨⟨emK x.1, e1, ?_, ?_⟩, ?_, rd⟩
        · cases x.1 <;> simp [emK, NestedKey.depth]
        · rw [hh, ← hw]; cases x.1 <;> rfl
        · have hsc := hs _ List.mem_cons_self
          cases a with
          | int i => have : emK x.1 = .num i := (Option.some.inj e1).symm
                     cases hx : x.1 with
                     | inl j => rw [hx] at this; injection this with this; subst this; simp only [Rp]; rfl
                     | inr y => rw [hx] at this; cases this
          | str i => have : emK x.1 = .text i := (Option.some.inj e1).symm
                     cases hx : x.1 with
                     | inl j => rw [hx] at this; cases this
                     | inr y => rw [hx] at this; injection this with this; subst this; simp only [Rp]; rfl
          | _ => cases hsc
      · rcases keyIs_shape hi with ⟨i, t, hx, he⟩ | ⟨y, t, hx, he⟩
        · rw [he, hx]; exact ⟨t, rfl⟩
        · rw [he, hx]; exact ⟨t, rfl⟩
end
end TL

set_option Elab.async false
set_option linter.all false
set_option maxRecDepth 100000
namespace TL
open PySem PySem.Spec PyProof.Rows L2

def lift {α : Type} : Option α → Res α
  | some a => .ok a
  | none => .stuck
@[simp] theorem lift_some {α : Type} (a : α) : lift (some a) = .ok a := rfl
@[simp] theorem lift_none {α : Type} : lift (none : Option α) = .stuck := rfl
section
variable [WC] {α β : Type} {K : PySem.W.Frag} {mg : Str → Option Value} {S : Sx} {W : WX} {F F' G H H' : Hp} {P : Nat → Option Addr} {ev ev' : Ev} {σ : L2.St}
theorem tM.lift {o : Option α} {k : α → Res (β × Ev)} {post : β → Ev → Hp → Hp → Prop} (h : tM K mg S W G P σ F ((lift o).bind k) post) : ∃ a, o = some a ∧ tM K mg S W G P σ F (k a) post := by
  cases o with
  | none => exact False.elim h
  | some a => exact ⟨a, rfl, h⟩
theorem tM.cond {c : Prop} [Decidable c] {r : Res (β × Ev)} {post : β → Ev → Hp → Hp → Prop} (h : tM K mg S W G P σ F (if c then r else .stuck) post) : c ∧ tM K mg S W G P σ F r post := by
  by_cases hc : c
  · rw [if_pos hc] at h; exact ⟨hc, h⟩
  · rw [if_neg hc] at h; exact False.elim h
theorem tM.condB {c : Bool} {r : Res (β × Ev)} {post : β → Ev → Hp → Hp → Prop} (h : tM K mg S W G P σ F (bif c then r else .stuck) post) : c = true ∧ tM K mg S W G P σ F r post := by
  cases c with
  | true => exact ⟨rfl, h⟩
  | false => exact False.elim h
end

/-! ### comparisons by data -/
def gLt : D → D → Option D
  | .int i, .int j => some (.bool (decide (i < j)))
  | a, b => if okD a ∧ okD b ∧ PySem.W.alike a b = true ∧ isNone a = false then some (.bool (PySem.W.dataLt a b)) else none
def gLe : D → D → Option D
  | .int i, .int j => some (.bool (decide (i ≤ j)))
  | a, b => if okD a ∧ okD b ∧ PySem.W.alike a b = true ∧ isNone a = false then some (.bool (!PySem.W.dataLt b a)) else none
def gGt : D → D → Option D
  | .int i, .int j => some (.bool (decide (j < i)))
  | a, b => if okD a ∧ okD b ∧ PySem.W.alike a b = true ∧ isNone a = false then some (.bool (PySem.W.dataLt b a)) else none
def gGe : D → D → Option D
  | .int i, .int j => some (.bool (decide (j ≤ i)))
  | a, b => if okD a ∧ okD b ∧ PySem.W.alike a b = true ∧ isNone a = false then some (.bool (!PySem.W.dataLt a b)) else none
theorem isNone_ne {d : D} (h : isNone d = false) : d ≠ .none := fun e => by subst e; cases h
section
variable [WC] {X : Cx}
theorem op_gLt (hu : X.A.units + 64 < cLine) : OpR X (compareOp .Lt) (rV X.K X.mg gLt) := by
  intro pins s σ H x y v u Q I rx ry h
  obtain ⟨F, a, b, d, sm, ra, rb, e, k⟩ := h
  unfold gLt at e
  split at e
  · cases e; obtain rfl := ra.int; obtain rfl := rb.int
    exact op_lt pins s σ H _ _ v u Q I rx ry ⟨_, _, rfl, rfl, k F H _ (Grow.refl _ _) (rp_bool _)⟩
  · split at e
    · rename_i hm
      cases e
      obtain ⟨p1, d1⟩ := okD_p hm.1
      obtain ⟨p2, d2⟩ := okD_p hm.2.1
      obtain ⟨as, r1⟩ := rq_reads I sm ra rx p1
      obtain ⟨bs, r2⟩ := rq_reads I sm rb ry p2
      exact PySem.W.lt_data r1 r2 hm.2.2.1 (isNone_ne hm.2.2.2) (by omega) ⟨.bl _, H, I, rfl, k F H _ (Grow.refl _ _) (rp_bool _)⟩
    · cases e
theorem op_gLe (hu : X.A.units + 64 < cLine) : OpR X (compareOp .LtE) (rV X.K X.mg gLe) := by
  intro pins s σ H x y v u Q I rx ry h
  obtain ⟨F, a, b, d, sm, ra, rb, e, k⟩ := h
  unfold gLe at e
  split at e
  · cases e; obtain rfl := ra.int; obtain rfl := rb.int
    exact op_le pins s σ H _ _ v u Q I rx ry ⟨_, _, rfl, rfl, k F H _ (Grow.refl _ _) (rp_bool _)⟩
  · split at e
    · rename_i hm
      cases e
      obtain ⟨p1, d1⟩ := okD_p hm.1
      obtain ⟨p2, d2⟩ := okD_p hm.2.1
      obtain ⟨as, r1⟩ := rq_reads I sm ra rx p1
      obtain ⟨bs, r2⟩ := rq_reads I sm rb ry p2
      exact PySem.W.le_data r1 r2 hm.2.2.1 (isNone_ne hm.2.2.2) (by omega) ⟨.bl _, H, I, rfl, k F H _ (Grow.refl _ _) (rp_bool _)⟩
    · cases e
theorem op_gGt (hu : X.A.units + 64 < cLine) : OpR X (compareOp .Gt) (rV X.K X.mg gGt) := by
  intro pins s σ H x y v u Q I rx ry h
  obtain ⟨F, a, b, d, sm, ra, rb, e, k⟩ := h
  unfold gGt at e
  split at e
  · cases e; obtain rfl := ra.int; obtain rfl := rb.int
    exact op_gt pins s σ H _ _ v u Q I rx ry ⟨_, _, rfl, rfl, k F H _ (Grow.refl _ _) (rp_bool _)⟩
  · split at e
    · rename_i hm
      cases e
      obtain ⟨p1, d1⟩ := okD_p hm.1
      obtain ⟨p2, d2⟩ := okD_p hm.2.1
      obtain ⟨as, r1⟩ := rq_reads I sm ra rx p1
      obtain ⟨bs, r2⟩ := rq_reads I sm rb ry p2
      exact PySem.W.gt_data r1 r2 hm.2.2.1 (isNone_ne hm.2.2.2) (by omega) ⟨.bl _, H, I, rfl, k F H _ (Grow.refl _ _) (rp_bool _)⟩
    · cases e
theorem op_gGe (hu : X.A.units + 64 < cLine) : OpR X (compareOp .GtE) (rV X.K X.mg gGe) := by
  intro pins s σ H x y v u Q I rx ry h
  obtain ⟨F, a, b, d, sm, ra, rb, e, k⟩ := h
  unfold gGe at e
  split at e
  · cases e; obtain rfl := ra.int; obtain rfl := rb.int
    exact op_ge pins s σ H _ _ v u Q I rx ry ⟨_, _, rfl, rfl, k F H _ (Grow.refl _ _) (rp_bool _)⟩
  · split at e
    · rename_i hm
      cases e
      obtain ⟨p1, d1⟩ := okD_p hm.1
      obtain ⟨p2, d2⟩ := okD_p hm.2.1
      obtain ⟨as, r1⟩ := rq_reads I sm ra rx p1
      obtain ⟨bs, r2⟩ := rq_reads I sm rb ry p2
      exact PySem.W.ge_data r1 r2 hm.2.2.1 (isNone_ne hm.2.2.2) (by omega) ⟨.bl _, H, I, rfl, k F H _ (Grow.refl _ _) (rp_bool _)⟩
    · cases e
/-- in, not in: over a list, a tuple, a text -/
def inD (x : D) : D → Option Bool
  | .list ys => if okD x ∧ okD (.list ys) then some (ys.any fun y => PyData.eqv y x) else none
  | .tuple ys => if okD x ∧ okD (.tuple ys) then some (ys.any fun y => PyData.eqv y x) else none
  | .str z => match x with
    | .str y => some (!(Builtin.Str.occurrences z y 0 z.length 1).isEmpty)
    | _ => none
  | .dict kvs => (keyOk kvs x).map fun nk => (dVal kvs nk).isSome
  | _ => none
def gIn (x c : D) : Option D := (inD x c).map PyData.bool
def gNotIn (x c : D) : Option D := (inD x c).map fun b => PyData.bool (!b)
theorem op_gIn (hu : X.A.units + 64 < cLine) (hw : X.w = WC.w := by rfl) : OpR X (compareOp .In) (rV X.K X.mg gIn) := by
  intro pins s σ H x y v u Q I rx ry h
  obtain ⟨F, a, b, d, sm, ra, rb, e, k⟩ := h
  unfold gIn at e
  obtain ⟨c, ec, e⟩ := Option.map_eq_some_iff.mp e
  subst e
  unfold inD at ec
  split at ec
  · split at ec
    · rename_i hm
      cases ec
      obtain ⟨p1, d1⟩ := okD_p hm.1
      obtain ⟨p2, d2⟩ := okD_p hm.2
      obtain ⟨as, r1⟩ := rq_reads I sm ra rx p1
      obtain ⟨bs, r2⟩ := rq_reads I sm rb ry p2
      exact PySem.SeqAt.in_list_data r2 r1 (by simpa only [PyData.plain] using p2) p1 (by omega) ⟨.bl _, H, I, rfl, k F H _ (Grow.refl _ _) (rp_bool _)⟩
    · cases ec
  · split at ec
    · rename_i hm
      cases ec
      obtain ⟨p1, d1⟩ := okD_p hm.1
      obtain ⟨p2, d2⟩ := okD_p hm.2
      obtain ⟨as, r1⟩ := rq_reads I sm ra rx p1
      obtain ⟨bs, r2⟩ := rq_reads I sm rb ry p2
      exact PySem.SeqAt.in_tuple_data r2 r1 (by simpa only [PyData.plain] using p2) p1 (by omega) ⟨.bl _, H, I, rfl, k F H _ (Grow.refl _ _) (rp_bool _)⟩
    · cases ec
  · split at ec
    · cases ec; obtain rfl := ra.str; obtain rfl := rb.str
      exact op_in_str pins s σ H _ _ v u Q I rx ry ⟨_, _, rfl, rfl, k F H _ (Grow.refl _ _) (rp_bool _)⟩
    · cases ec
  · obtain ⟨nk, e1, rfl⟩ := Option.map_eq_some_iff.mp ec
    exact dic_in I hw hu sm (rb.dicK e1) ry e1 ra rx fun tk => ⟨.bl _, H, I.tok _, rfl, k F H _ (Grow.refl _ _) (rp_bool _)⟩
  · cases ec
theorem op_gNotIn (hu : X.A.units + 64 < cLine) (hw : X.w = WC.w := by rfl) : OpR X (compareOp .NotIn) (rV X.K X.mg gNotIn) := by
  intro pins s σ H x y v u Q I rx ry h
  obtain ⟨F, a, b, d, sm, ra, rb, e, k⟩ := h
  unfold gNotIn at e
  obtain ⟨c, ec, e⟩ := Option.map_eq_some_iff.mp e
  subst e
  unfold inD at ec
  split at ec
  · split at ec
    · rename_i hm
      cases ec
      obtain ⟨p1, d1⟩ := okD_p hm.1
      obtain ⟨p2, d2⟩ := okD_p hm.2
      obtain ⟨as, r1⟩ := rq_reads I sm ra rx p1
      obtain ⟨bs, r2⟩ := rq_reads I sm rb ry p2
      exact PySem.SeqAt.notIn_list_data r2 r1 (by simpa only [PyData.plain] using p2) p1 (by omega) ⟨.bl _, H, I, rfl, k F H _ (Grow.refl _ _) (rp_bool _)⟩
    · cases ec
  · split at ec
    · rename_i hm
      cases ec
      obtain ⟨p1, d1⟩ := okD_p hm.1
      obtain ⟨p2, d2⟩ := okD_p hm.2
      obtain ⟨as, r1⟩ := rq_reads I sm ra rx p1
      obtain ⟨bs, r2⟩ := rq_reads I sm rb ry p2
      exact PySem.SeqAt.notIn_tuple_data r2 r1 (by simpa only [PyData.plain] using p2) p1 (by omega) ⟨.bl _, H, I, rfl, k F H _ (Grow.refl _ _) (rp_bool _)⟩
    · cases ec
  · split at ec
    · cases ec; obtain rfl := ra.str; obtain rfl := rb.str
      exact op_notIn_str pins s σ H _ _ v u Q I rx ry ⟨_, _, rfl, rfl, k F H _ (Grow.refl _ _) (rp_bool _)⟩
    · cases ec
  · obtain ⟨nk, e1, rfl⟩ := Option.map_eq_some_iff.mp ec
    exact dic_notIn I hw hu sm (rb.dicK e1) ry e1 ra rx fun tk => ⟨.bl _, H, I.tok _, rfl, k F H _ (Grow.refl _ _) (rp_bool _)⟩
  · cases ec
/-- is, is not: None, or two truth values -/
def isD : D → D → Option Bool
  | .bool a, .bool b => some (decide (a = b))
  | a, .none => some (isNone a)
  | _, _ => none
def gIs (x c : D) : Option D := (isD x c).map PyData.bool
def gIsNot (x c : D) : Option D := (isD x c).map fun b => PyData.bool (!b)
theorem op_gIs : OpR X (compareOp .Is) (rV X.K X.mg gIs) := by
  intro pins s σ H x y v u Q I rx ry h
  obtain ⟨F, a, b, d, sm, ra, rb, e, k⟩ := h
  unfold gIs at e
  obtain ⟨c, ec, e⟩ := Option.map_eq_some_iff.mp e
  subst e
  unfold isD at ec
  split at ec
  · cases ec; obtain rfl := ra.bool; obtain rfl := rb.bool
    exact op_isBl pins s σ H _ _ v u Q I rx ry ⟨_, _, rfl, rfl, k F H _ (Grow.refl _ _) (rp_bool _)⟩
  · cases ec; obtain rfl := rb.none
    exact op_isN pins s σ H _ _ v u Q I rx ry ⟨rfl, by rw [ra.is_none]; exact k F H _ (Grow.refl _ _) (rp_bool _)⟩
  · cases ec
theorem op_gIsNot : OpR X (compareOp .IsNot) (rV X.K X.mg gIsNot) := by
  intro pins s σ H x y v u Q I rx ry h
  obtain ⟨F, a, b, d, sm, ra, rb, e, k⟩ := h
  unfold gIsNot at e
  obtain ⟨c, ec, e⟩ := Option.map_eq_some_iff.mp e
  subst e
  unfold isD at ec
  split at ec
  · cases ec; obtain rfl := ra.bool; obtain rfl := rb.bool
    exact op_notBl pins s σ H _ _ v u Q I rx ry ⟨_, _, rfl, rfl, k F H _ (Grow.refl _ _) (rp_bool _)⟩
  · cases ec; obtain rfl := rb.none
    exact op_notN pins s σ H _ _ v u Q I rx ry ⟨rfl, by rw [ra.is_none]; exact k F H _ (Grow.refl _ _) (rp_bool _)⟩
  · cases ec
end

/-! ### expressions -/
def eVar (i : Nat) : DE := fun ev => (lift (ev[i]?).join).bind fun d => .ok (.val d, ev)
def eOwn (i : Nat) : DE := fun ev => (lift (ev[i]?).join).bind fun _ => .ok (.slot i, ev)
def eC (d : D) : DE := fun ev => .ok (.val d, ev)
def vUn (g : D → Option D) (m : DE) : DE := fun ev => (m ev).bind fun p => (lift (p.1.get p.2)).bind fun a => (lift (g a)).bind fun d => .ok (.val d, p.2)
def vBin (g : D → D → Option D) (ma mb : DE) : DE := fun ev => (ma ev).bind fun p => (mb p.2).bind fun q => (lift (p.1.get q.2)).bind fun a => (lift (q.1.get q.2)).bind fun b => (lift (g a b)).bind fun d => .ok (.val d, q.2)
def oBin (g : D → D → Option D) (ma mb : DE) : DO := fun ev => (ma ev).bind fun p => (mb p.2).bind fun q => (lift (p.1.get q.2)).bind fun a => (lift (q.1.get q.2)).bind fun b => (lift (g a b)).bind fun d => .ok (d, q.2)
def vOf (m : DO) : DE := fun ev => (m ev).bind fun p => .ok (.val p.1, p.2)
def toBool : D → Option Bool
  | .bool b => some b
  | _ => none
/-- a test by a truth value -/
def tOf (m : DE) : DT := fun ev => (m ev).bind fun p => (lift ((p.1.get p.2).bind toBool)).bind fun b => .ok (b, p.2)
def truD : D → Option Bool
  | .none => some false
  | .bool b => some b
  | .int i => some (i != 0)
  | .str y => if y.length ≤ sizeLine then some ((y.length : Int) != 0) else none
  | .list xs => some (!xs.isEmpty)
  | .tuple xs => some (!xs.isEmpty)
  | .dict _ => none
/-- a test by a value's truth -/
def tTru (m : DE) : DT := fun ev => (m ev).bind fun p => (lift ((p.1.get p.2).bind truD)).bind fun b => .ok (b, p.2)
def tNo (m : DT) : DT := fun ev => (m ev).bind fun p => .ok (!p.1, p.2)
def tAn (m n : DT) : DT := fun ev => (m ev).bind fun p => bif p.1 then n p.2 else .ok (false, p.2)
def tOrr (m n : DT) : DT := fun ev => (m ev).bind fun p => bif p.1 then .ok (true, p.2) else n p.2
/-- and, or, not as values -/
def vAn (m n : DE) : DE := fun ev => (m ev).bind fun p => (lift ((p.1.get p.2).bind toBool)).bind fun b => bif b then n p.2 else .ok (.val (.bool false), p.2)
def vOrr (m n : DE) : DE := fun ev => (m ev).bind fun p => (lift ((p.1.get p.2).bind toBool)).bind fun b => bif b then .ok (.val (.bool true), p.2) else n p.2
def vNo (m : DE) : DE := fun ev => (m ev).bind fun p => (lift ((p.1.get p.2).bind toBool)).bind fun b => .ok (.val (.bool (!b)), p.2)
def vIf (t : DT) (m n : DE) : DE := fun ev => (t ev).bind fun p => bif p.1 then m p.2 else n p.2
def vChain (g h : D → D → Option D) (ma mb mc : DE) : DE := fun ev => (ma ev).bind fun p => (mb p.2).bind fun q => (lift (p.1.get q.2)).bind fun a => (lift (q.1.get q.2)).bind fun b => (lift ((g a b).bind toBool)).bind fun k =>
  bif k then (mc q.2).bind fun r => (lift (q.1.get r.2)).bind fun b' => (lift (r.1.get r.2)).bind fun c => (lift (h b' c)).bind fun d => .ok (.val d, r.2) else .ok (.val (.bool false), q.2)
section
variable [WC] {X : Cx} {S : Sx} {W : WX} {a b c e : Expr} {ma mb mc m n : DE} {ta tb : DT} {pos : Pos}
end
end TL

set_option Elab.async false
set_option linter.all false
set_option maxRecDepth 100000
namespace TL
open PySem PySem.Spec PyProof.Rows L2
section
variable [WC] {X : Cx} {S : Sx} {W : WX} {a b c e : Expr} {ma mb mc m n : DE} {ta tb : DT} {pos : Pos}

theorem sd_var (i : Nat) {x : Str} (ho : S.own i = false := by rfl) (hN : X.N[i]? = some x := by rfl) (hv : Vis X.env.scope x := by first | exact Or.inl rfl | exact Or.inr (Or.inl rfl) | exact Or.inr (Or.inr rfl)) (hd : (x == ("__debug__" : Str)) = false := by decide)
    (hcd : (x == ("__classdict__" : Str)) = false := by decide) : PE X (.Name x pos) (tE X.K X.mg S W (eVar i)) := (pe_var hN hv hd hcd).imp fun σ H Q ⟨F, G, P, ev, M, h⟩ => by
  obtain ⟨d, e, h⟩ := h.lift
  obtain ⟨v, e1, r⟩ := M.sl i d ho (join_some e)
  exact ⟨v, e1, h F H (Same.refl _) M v r⟩
theorem sd_own (i : Nat) {x : Str} (ho : S.own i = true := by rfl) (hN : X.N[i]? = some x := by rfl) (hv : Vis X.env.scope x := by first | exact Or.inl rfl | exact Or.inr (Or.inl rfl) | exact Or.inr (Or.inr rfl)) (hd : (x == ("__debug__" : Str)) = false := by decide)
    (hcd : (x == ("__classdict__" : Str)) = false := by decide) : PE X (.Name x pos) (tE X.K X.mg S W (eOwn i)) := (pe_var hN hv hd hcd).imp fun σ H Q ⟨F, G, P, ev, M, h⟩ => by
  obtain ⟨d, e, h⟩ := h.lift
  obtain ⟨v, e1, r⟩ := M.so i d ho (join_some e)
  exact ⟨_, e1, h F H (Same.refl _) M _ ⟨ho, e1⟩⟩
theorem sd_const {e : Expr} {d : D} {v : V} (h : PE X e (tC v)) (r : ∀ F, Rp X.K X.mg F d v) : PE X e (tE X.K X.mg S W (eC d)) := h.imp fun σ H Q ⟨F, G, P, ev, M, h⟩ => h F H (Same.refl _) M v (r F)
theorem sd_int {i : Int} {j : Nat} : PE X (.Constant (.int i) j pos) (tE X.K X.mg S W (eC (.int i))) := sd_const pe_int fun _ => rp_int i
theorem sd_bool {i : Bool} {j : Nat} : PE X (.Constant (.bool i) j pos) (tE X.K X.mg S W (eC (.bool i))) := sd_const pe_bl fun _ => rp_bool i
theorem sd_none {j : Nat} : PE X (.Constant .none j pos) (tE X.K X.mg S W (eC .none)) := sd_const pe_non fun _ => rp_none
theorem sd_str {i : Str} {j : Nat} : PE X (.Constant (.str i) j pos) (tE X.K X.mg S W (eC (.str i))) := sd_const pe_str fun _ => rp_str i
/-- a module's constant int -/
theorem sd_glob {x : Str} {i : Int} {t : Tok} (hg : Gl X x) (hm : X.mg x = some (.int i t)) (hd : (x == ("__debug__" : Str)) = false := by decide) : PE X (.Name x pos) (tE X.K X.mg S W (eC (.int i))) := sd_const (pe_glob (v := .int i) hg hm ⟨_, rfl⟩ hd) fun _ => rp_int i
/-- a def of the module as a value -/
theorem sd_fn {x : Str} {f : Addr} (hg : Gl X x) (hm : X.mg x = some (.ref f)) (hd : (x == ("__debug__" : Str)) = false := by decide) : PE X (.Name x pos) (tE X.K X.mg S W (eC (fnD x))) := sd_const (pe_glob (v := .ref f) hg hm rfl hd) fun _ => by
  simp only [fnD, Rp]; exact .inl (.inl ⟨x, f, rfl, rfl, hm⟩)

theorem core_bin {g : D → D → Option D} {σ : L2.St} {H : Hp} {Q : VK} (h : tE X.K X.mg S W (vBin g ma mb) σ H Q) : tOp (rV X.K X.mg g) (tE X.K X.mg S W ma) (tE X.K X.mg S W mb) σ H Q := by
  obtain ⟨F, G, P, ev, M, h⟩ := h
  refine ⟨F, G, P, ev, M, h.bind.imp fun r1 ev1 F1 H1 _ s1 M1 h1 v rv => ⟨F1, G, P, ev1, M1, h1.bind.imp fun r2 ev2 F2 H2 _ s2 M2 h2 u ru => ?_⟩⟩
  obtain ⟨x, e1, h2⟩ := h2.lift
  obtain ⟨y, e2, h2⟩ := h2.lift
  obtain ⟨d, e3, h2⟩ := h2.lift
  exact ⟨F2, x, y, d, M2.fr.fh, M2.acc (rv.mono s2) e1, M2.acc ru e2, e3, fun F' H' v' g r => h2 F' H' g.f (M2.grow g) v' r⟩
theorem core_obin {g : D → D → Option D} {σ : L2.St} {H : Hp} {Q : VK} (h : tO X.K X.mg S W (oBin g ma mb) σ H Q) : tOp (rO X.K X.mg g) (tE X.K X.mg S W ma) (tE X.K X.mg S W mb) σ H Q := by
  obtain ⟨F, G, P, ev, M, h⟩ := h
  refine ⟨F, G, P, ev, M, h.bind.imp fun r1 ev1 F1 H1 _ s1 M1 h1 v rv => ⟨F1, G, P, ev1, M1, h1.bind.imp fun r2 ev2 F2 H2 _ s2 M2 h2 u ru => ?_⟩⟩
  obtain ⟨x, e1, h2⟩ := h2.lift
  obtain ⟨y, e2, h2⟩ := h2.lift
  obtain ⟨d, e3, h2⟩ := h2.lift
  refine ⟨F2, x, y, d, M2.fr.fh, M2.acc (rv.mono s2) e1, M2.acc ru e2, e3, fun F' H' p g hp hF o => h2 F' H' g.f (M2.grow g) p o ?_⟩
  have fr := FreshAt.of M2 hp
  exact ⟨hF, fr.2.1, fr.2.2⟩
theorem sd_bin {op : Operator} {g : D → D → Option D} (ho : OpR X (binaryOp op) (rV X.K X.mg g)) (ha : PE X a (tE X.K X.mg S W ma)) (hb : PE X b (tE X.K X.mg S W mb)) : PE X (.BinOp a op b pos) (tE X.K X.mg S W (vBin g ma mb)) := (pe_op ho ha hb).imp fun _ _ _ h => core_bin h
theorem sd_obin {op : Operator} {g : D → D → Option D} (ho : OpR X (binaryOp op) (rO X.K X.mg g)) (ha : PE X a (tE X.K X.mg S W ma)) (hb : PE X b (tE X.K X.mg S W mb)) : PE X (.BinOp a op b pos) (tO X.K X.mg S W (oBin g ma mb)) := (pe_op ho ha hb).imp fun _ _ _ h => core_obin h
theorem sd_cmp {op : CmpOp} {g : D → D → Option D} (ho : OpR X (compareOp op) (rV X.K X.mg g)) (ha : PE X a (tE X.K X.mg S W ma)) (hb : PE X b (tE X.K X.mg S W mb)) (hm : behindInMarks op b = false := by first | exact nomark _ | rfl) : PE X (.Compare a [op] [b] pos) (tE X.K X.mg S W (vBin g ma mb)) := (pe_cmpR ho ha hb hm).imp fun _ _ _ h => core_bin h
theorem tE_bool {σ : L2.St} {H : Hp} {Q : Bool → Hp → Prop} (h : tT X.K X.mg S W (tOf m) σ H Q) : tE X.K X.mg S W m σ H fun v H1 => ∃ k, v = .bl k ∧ Q k H1 := by
  obtain ⟨F, G, P, ev, M, h⟩ := h
  refine ⟨F, G, P, ev, M, h.bind.imp fun r1 ev1 F1 H1 _ s1 M1 h1 v rv => ?_⟩
  obtain ⟨k, e1, h1⟩ := h1.lift
  obtain ⟨d, e2, e3⟩ := Option.bind_eq_some_iff.mp e1
  cases d with
  | bool b0 =>
    simp only [toBool, Option.some.injEq] at e3
    subst e3
    exact ⟨_, (M1.acc rv e2).bool, h1 F1 H1 (Same.refl _) M1⟩
  | _ => cases e3
theorem st_cmp {op : CmpOp} {g : D → D → Option D} (ho : OpR X (compareOp op) (rV X.K X.mg g)) (ha : PE X a (tE X.K X.mg S W ma)) (hb : PE X b (tE X.K X.mg S W mb)) (hm : behindInMarks op b = false := by first | exact nomark _ | rfl) : PT X (.Compare a [op] [b] pos) (tT X.K X.mg S W (tOf (vBin g ma mb))) := (pt_cmpR ho ha hb hm).imp fun _ _ _ h => core_bin (tE_bool h)
/-- a test whose value is a truth value -/
theorem st_bool (he : PE X e (tE X.K X.mg S W m)) (h : ∀ whole, isTrue e X.env whole = (do let v ← whole; standAt e.pos; holding [v] (truthy v)) := by intro _; rfl) : PT X e (tT X.K X.mg S W (tOf m)) := (pt_val he h).imp fun _ _ _ h => tE_bool h
theorem tru_ok {K : PySem.W.Frag} {mg : Str → Option Value} {F H : Hp} (sm : Same F H) {d : D} {v : V} {k : Bool} (r : Rq K mg F H d v) (e : truD d = some k) : TruV K v H k := by
  cases d with
  | none => cases e; rw [r.none]; rfl
  | bool b => cases e; rw [r.bool]; rfl
  | int i => cases e; rw [r.int]; rfl
  | str y =>
    simp only [truD] at e
    split at e
    · cases e; rw [r.str]; exact ⟨by assumption, rfl⟩
    · cases e
  | list xs =>
    cases e
    obtain ⟨a, vs, rfl, h, q⟩ := r.list
    have l := q.len
    exact .inl ⟨vs, .inl h, by cases xs <;> cases vs <;> simp at l ⊢⟩
  | tuple xs =>
    cases e
    obtain ⟨a, vs, rfl, h, q⟩ := r.tuple
    have l := q.len
    exact .inr (.inl ⟨vs, SqT_mono sm h, by cases xs <;> cases vs <;> simp at l ⊢⟩)
  | dict _ => cases e
theorem st_tru (he : PE X e (tE X.K X.mg S W m)) (h : ∀ whole, isTrue e X.env whole = (do let v ← whole; standAt e.pos; holding [v] (truthy v)) := by intro _; rfl) : PT X e (tT X.K X.mg S W (tTru m)) := (pt_truth he h).imp fun σ H Q ⟨F, G, P, ev, M, h⟩ => by
  refine ⟨F, G, P, ev, M, h.bind.imp fun r1 ev1 F1 H1 _ s1 M1 h1 v rv => ?_⟩
  obtain ⟨k, e1, h1⟩ := h1.lift
  obtain ⟨d, e2, e3⟩ := Option.bind_eq_some_iff.mp e1
  exact ⟨k, tru_ok M1.fr.fh (M1.acc rv e2) e3, h1 F1 H1 (Same.refl _) M1⟩
theorem st_not (ha : PT X a (tT X.K X.mg S W ta)) : PT X (.UnaryOp .Not a pos) (tT X.K X.mg S W (tNo ta)) := (pt_not ha).imp fun σ H Q ⟨F, G, P, ev, M, h⟩ => ⟨F, G, P, ev, M, h.bind.imp fun b ev1 F1 H1 _ s1 M1 h1 => h1 F1 H1 (Same.refl _) M1⟩
variable {rest : List Expr}
theorem sw_and1 (ha : PT X a (tT X.K X.mg S W ta)) : PW X (.BoolOp .And [a] pos) (tT X.K X.mg S W ta) := pw_and1 ha
theorem sw_or1 (ha : PT X a (tT X.K X.mg S W ta)) : PW X (.BoolOp .Or [a] pos) (tT X.K X.mg S W ta) := pw_or1 ha
theorem sw_and (ha : PT X a (tT X.K X.mg S W ta)) (hb : PW X (.BoolOp .And (b :: rest) pos) (tT X.K X.mg S W tb)) : PW X (.BoolOp .And (a :: b :: rest) pos) (tT X.K X.mg S W (tAn ta tb)) := (pw_and ha hb).imp fun σ H Q ⟨F, G, P, ev, M, h⟩ => by
  refine ⟨F, G, P, ev, M, h.bind.imp fun k ev1 F1 H1 _ s1 M1 h1 => ?_⟩
  cases k with
  | true => exact ⟨F1, G, P, ev1, M1, h1⟩
  | false => exact h1 F1 H1 (Same.refl _) M1
theorem sw_or (ha : PT X a (tT X.K X.mg S W ta)) (hb : PW X (.BoolOp .Or (b :: rest) pos) (tT X.K X.mg S W tb)) : PW X (.BoolOp .Or (a :: b :: rest) pos) (tT X.K X.mg S W (tOrr ta tb)) := (pw_or ha hb).imp fun σ H Q ⟨F, G, P, ev, M, h⟩ => by
  refine ⟨F, G, P, ev, M, h.bind.imp fun k ev1 F1 H1 _ s1 M1 h1 => ?_⟩
  cases k with
  | false => exact ⟨F1, G, P, ev1, M1, h1⟩
  | true => exact h1 F1 H1 (Same.refl _) M1
theorem sd_one {op} (h : PE X a (tE X.K X.mg S W m)) : PE X (.BoolOp op [a] pos) (tE X.K X.mg S W m) := pe_one h
theorem sd_and (ha : PE X a (tE X.K X.mg S W ma)) (hb : PE X (.BoolOp .And (b :: rest) pos) (tE X.K X.mg S W mb)) : PE X (.BoolOp .And (a :: b :: rest) pos) (tE X.K X.mg S W (vAn ma mb)) := (pe_and ha hb).imp fun σ H Q ⟨F, G, P, ev, M, h⟩ => by
  refine ⟨F, G, P, ev, M, h.bind.imp fun r1 ev1 F1 H1 _ s1 M1 h1 v rv => ?_⟩
  obtain ⟨k, e1, h1⟩ := h1.lift
  obtain ⟨d, e2, e3⟩ := Option.bind_eq_some_iff.mp e1
  cases d with
  | bool b0 =>
    simp only [toBool, Option.some.injEq] at e3
    subst e3
    refine ⟨_, (M1.acc rv e2).bool, ?_⟩
    cases b0 with
    | true => exact ⟨F1, G, P, ev1, M1, h1⟩
    | false => exact h1 F1 H1 (Same.refl _) M1 _ (rp_bool (K := X.K) (mg := X.mg) (F := F1) _)
  | _ => cases e3
theorem sd_or (ha : PE X a (tE X.K X.mg S W ma)) (hb : PE X (.BoolOp .Or (b :: rest) pos) (tE X.K X.mg S W mb)) : PE X (.BoolOp .Or (a :: b :: rest) pos) (tE X.K X.mg S W (vOrr ma mb)) := (pe_or ha hb).imp fun σ H Q ⟨F, G, P, ev, M, h⟩ => by
  refine ⟨F, G, P, ev, M, h.bind.imp fun r1 ev1 F1 H1 _ s1 M1 h1 v rv => ?_⟩
  obtain ⟨k, e1, h1⟩ := h1.lift
  obtain ⟨d, e2, e3⟩ := Option.bind_eq_some_iff.mp e1
  cases d with
  | bool b0 =>
    simp only [toBool, Option.some.injEq] at e3
    subst e3
    refine ⟨_, (M1.acc rv e2).bool, ?_⟩
    cases b0 with
    | false => exact ⟨F1, G, P, ev1, M1, h1⟩
    | true => exact h1 F1 H1 (Same.refl _) M1 _ (rp_bool (K := X.K) (mg := X.mg) (F := F1) _)
  | _ => cases e3
theorem sd_not (ha : PE X a (tE X.K X.mg S W ma)) : PE X (.UnaryOp .Not a pos) (tE X.K X.mg S W (vNo ma)) := (pe_not ha).imp fun σ H Q ⟨F, G, P, ev, M, h⟩ => by
  refine ⟨F, G, P, ev, M, h.bind.imp fun r1 ev1 F1 H1 _ s1 M1 h1 v rv => ?_⟩
  obtain ⟨k, e1, h1⟩ := h1.lift
  obtain ⟨d, e2, e3⟩ := Option.bind_eq_some_iff.mp e1
  cases d with
  | bool b0 =>
    simp only [toBool, Option.some.injEq] at e3
    subst e3
    exact ⟨_, (M1.acc rv e2).bool, h1 F1 H1 (Same.refl _) M1 _ (rp_bool (K := X.K) (mg := X.mg) (F := F1) _)⟩
  | _ => cases e3
theorem sd_un {op : UnaryOp} {g : D → Option D} (ho : UnR X (unaryOp op) (rU1 X.K X.mg g)) (ha : PE X a (tE X.K X.mg S W ma)) : PE X (.UnaryOp op a pos) (tE X.K X.mg S W (vUn g ma)) := (pe_un ho ha).imp fun σ H Q ⟨F, G, P, ev, M, h⟩ => by
  refine ⟨F, G, P, ev, M, h.bind.imp fun r1 ev1 F1 H1 _ s1 M1 h1 v rv => ?_⟩
  obtain ⟨x, e1, h1⟩ := h1.lift
  obtain ⟨d, e2, h1⟩ := h1.lift
  exact ⟨F1, x, d, M1.fr.fh, M1.acc rv e1, e2, fun F' H' v' g r => h1 F' H' g.f (M1.grow g) v' r⟩
theorem sd_if (hc : PT X c (tT X.K X.mg S W ta)) (ha : PE X a (tE X.K X.mg S W ma)) (hb : PE X b (tE X.K X.mg S W mb)) : PE X (.IfExp c a b pos) (tE X.K X.mg S W (vIf ta ma mb)) := (pe_ifExp hc ha hb).imp fun σ H Q ⟨F, G, P, ev, M, h⟩ => by
  refine ⟨F, G, P, ev, M, h.bind.imp fun k ev1 F1 H1 _ s1 M1 h1 => ?_⟩
  cases k with
  | true => exact ⟨F1, G, P, ev1, M1, h1⟩
  | false => exact ⟨F1, G, P, ev1, M1, h1⟩
/-- a fresh object, used as a value: it is frozen -/
theorem sd_of {mo : DO} (he : PE X e (tO X.K X.mg S W mo)) : PE X e (tE X.K X.mg S W (vOf mo)) := he.imp fun σ H Q ⟨F, G, P, ev, M, h⟩ => by
  refine ⟨F, G, P, ev, M, h.bind.imp fun d ev1 F1 H1 _ s1 M1 h1 p o f => ?_⟩
  obtain ⟨F2, s2, M2, r⟩ := M1.freeze o f
  exact h1 F2 H1 s2 M2 _ r
theorem core_chain {g h : D → D → Option D} {σ : L2.St} {H : Hp} {Q : VK} (q : tE X.K X.mg S W (vChain g h ma mb mc) σ H Q) : tChain (rV X.K X.mg g) (rV X.K X.mg h) (tE X.K X.mg S W ma) (tE X.K X.mg S W mb) (tE X.K X.mg S W mc) σ H Q := by
  obtain ⟨F, G, P, ev, M, q⟩ := q
  refine ⟨F, G, P, ev, M, q.bind.imp fun r1 ev1 F1 H1 _ s1 M1 h1 v rv => ⟨F1, G, P, ev1, M1, h1.bind.imp fun r2 ev2 F2 H2 _ s2 M2 h2 u ru => ?_⟩⟩
  obtain ⟨x, e1, h2⟩ := h2.lift
  obtain ⟨y, e2, h2⟩ := h2.lift
  obtain ⟨k, e3, h2⟩ := h2.lift
  obtain ⟨d, e4, e5⟩ := Option.bind_eq_some_iff.mp e3
  cases d with
  | bool b0 =>
    simp only [toBool, Option.some.injEq] at e5
    subst e5
    refine ⟨F2, x, y, _, M2.fr.fh, M2.acc (rv.mono s2) e1, M2.acc ru e2, e4, fun F3 H3 v3 g3 r3 => ⟨b0, by simpa only [Rp] using r3, ?_⟩⟩
    have M3 := M2.grow g3
    cases b0 with
    | false => exact h2 F3 H3 g3.f M3 _ (rp_bool (K := X.K) (mg := X.mg) (F := F3) false)
    | true =>
      rw [if_pos rfl]
      have h2' := tM.mono g3.f h2
      refine ⟨F3, G, P, ev2, M3, h2'.bind.imp fun r4 ev4 F4 H4 _ s4 M4 h4 w rw => ?_⟩
      obtain ⟨y', e1', h4⟩ := h4.lift
      obtain ⟨z, e2', h4⟩ := h4.lift
      obtain ⟨d, e3', h4⟩ := h4.lift
      exact ⟨F4, y', z, d, M4.fr.fh, M4.acc ((ru.mono g3.f).mono s4) e1', M4.acc rw e2', e3', fun F' H' v' g r => h4 F' H' g.f (M4.grow g) v' r⟩
  | _ => cases e5
end
end TL

set_option Elab.async false
set_option linter.all false
set_option maxRecDepth 100000
namespace TL
open PySem PySem.Spec PyProof.Rows L2

/-! ### values out of what an expression gave -/
def toVal : RV → Ev → Res (D × Ev)
  | .val d, ev => .ok (d, ev)
  | .slot i, ev => (lift (ev[i]?).join).bind fun d => .ok (d, ev.set i none)
def vals : List RV → Ev → Res (List D × Ev)
  | [], ev => .ok ([], ev)
  | r :: rs, ev => (toVal r ev).bind fun p => (vals rs p.2).bind fun q => .ok (p.1 :: q.1, q.2)
def gets : List RV → Ev → Option (List D)
  | [], _ => some []
  | r :: rs, ev => (r.get ev).bind fun d => (gets rs ev).bind fun ds => some (d :: ds)
section
variable [WC] {α β : Type} {K : PySem.W.Frag} {mg : Str → Option Value} {S : Sx} {W : WX} {F F' G H H' : Hp} {P : Nat → Option Addr} {ev ev' : Ev} {σ : L2.St}
theorem Sim.drop (M : Sim K mg S F G P H ev σ) (i : Nat) : Sim K mg S F G P H (ev.set i none) σ where
  fr := M.fr
  len := by rw [List.length_set]; exact M.len
  sl := fun j d h e => by
    by_cases hj : j = i
    · subst hj; rw [List.getElem?_set] at e; split at e <;> (try split at e) <;> simp_all
    · rw [List.getElem?_set_ne (Ne.symm hj)] at e; exact M.sl j d h e
  so := fun j d h e => by
    by_cases hj : j = i
    · subst hj; rw [List.getElem?_set] at e; split at e <;> (try split at e) <;> simp_all
    · rw [List.getElem?_set_ne (Ne.symm hj)] at e; exact M.so j d h e
  sp := fun j k d e' a hj hk hn e1 e2 => by
    have f : ∀ {j d}, (ev.set i none)[j]? = some (some d) → ev[j]? = some (some d) := fun {j d} e => by
      by_cases hj : j = i
      · subst hj; rw [List.getElem?_set] at e; split at e <;> (try split at e) <;> simp_all
      · rw [List.getElem?_set_ne (Ne.symm hj)] at e; exact e
    exact M.sp j k d e' a hj hk hn (f e1) (f e2)
  pn := M.pn
omit [WC] in
theorem set_none_some {ev : Ev} {i j : Nat} {d : D} (e : (ev.set i none)[j]? = some (some d)) : j ≠ i ∧ ev[j]? = some (some d) := by
  by_cases hj : j = i
  · subst hj; rw [List.getElem?_set] at e; split at e <;> (try split at e) <;> simp_all
  · rw [List.getElem?_set_ne (Ne.symm hj)] at e; exact ⟨hj, e⟩
theorem toVal_ok {rv : RV} {v : V} {d : D} (M : Sim K mg S F G P H ev σ) (r : RRv K mg S F σ rv v) (e : toVal rv ev = .ok (d, ev')) : ∃ F', Same F F' ∧ Sim K mg S F' G P H ev' σ ∧ Rp K mg F' d v := by
  cases rv with
  | val d' => cases e; exact ⟨F, Same.refl _, M, r⟩
  | slot i =>
    have e : ((lift (ev[i]?).join).bind fun d => .ok (d, ev.set i none)) = Res.ok (d, ev') := e
    cases q : (ev[i]?).join with
    | none => rw [q] at e; cases e
    | some d' =>
      rw [q] at e
      cases e
      obtain ⟨ho, hs⟩ := r
      have q' := join_some q
      obtain ⟨a, e1, o, f0, g0⟩ := M.so i _ ho q'
      rw [hs] at e1
      have e2 : v = .ref a := by simpa using e1
      subst e2
      have fr : FreshAt S (ev.set i none) σ F G a := ⟨f0, g0, fun j d hj e z => by
        obtain ⟨hne, e⟩ := set_none_some e
        exact M.sp j i _ _ a hj ho hne e q' z hs⟩
      exact (M.drop i).freeze o fr
omit [WC] in
theorem toVal_ne_err {rv : RV} {c : Str} : toVal rv ev ≠ .err c := by
  cases rv with
  | val d => simp [toVal]
  | slot i =>
    show ((lift (ev[i]?).join).bind fun d => .ok (d, ev.set i none)) ≠ Res.err c
    cases (ev[i]?).join with
    | none => exact fun z => nomatch z
    | some d => exact fun z => nomatch z
theorem vals_ok : ∀ {rs : List RV} {vs : List V} {ds : List D} {F : Hp} {ev ev' : Ev}, Sim K mg S F G P H ev σ → RRvs K mg S F σ rs vs → vals rs ev = .ok (ds, ev') → ∃ F', Same F F' ∧ Sim K mg S F' G P H ev' σ ∧ Rps K mg F' ds vs
  | [], vs, ds, F, ev, ev', M, r, e => by
    cases e
    have : vs = [] := List.length_eq_zero_iff.mp r.1.symm
    exact ⟨F, Same.refl _, M, by simpa only [Rps] using this⟩
  | rv :: rs, [], ds, F, ev, ev', M, r, e => by have := r.1; simp at this
  | rv :: rs, v :: vs, ds, F, ev, ev', M, r, e => by
    unfold vals at e
    cases q : toVal rv ev with
    | ok p =>
      obtain ⟨d, ev1⟩ := p
      rw [q] at e
      obtain ⟨F1, s1, M1, r1⟩ := toVal_ok M (r.2 0 rv v rfl rfl) q
      have rr : RRvs K mg S F1 σ rs vs := ⟨by simpa using r.1, fun i r' v' e1 e2 => (r.2 (i + 1) r' v' (by simpa using e1) (by simpa using e2)).mono s1⟩
      simp only [Res.bind_ok] at e
      cases q2 : vals rs ev1 with
      | ok p2 =>
        obtain ⟨ds2, ev2⟩ := p2
        rw [q2] at e
        cases e
        obtain ⟨F2, s2, M2, r2⟩ := vals_ok M1 rr q2
        exact ⟨F2, s1.trans s2, M2, by simp only [Rps]; exact ⟨v, vs, rfl, Rp.mono s2 _ _ r1, r2⟩⟩
      | err c => rw [q2] at e; cases e
      | stuck => rw [q2] at e; cases e
    | err c => rw [q] at e; cases e
    | stuck => rw [q] at e; cases e
omit [WC] in
theorem vals_ne_err : ∀ {rs : List RV} {ev : Ev} {c : Str}, vals rs ev ≠ .err c
  | [], ev, c => by simp [vals]
  | rv :: rs, ev, c => by
    unfold vals
    cases q : toVal rv ev with
    | ok p =>
      simp only [Res.bind_ok]
      cases q2 : vals rs p.2 with
      | ok p2 => simp
      | err c' => exact absurd q2 vals_ne_err
      | stuck => simp
    | err c' => exact absurd q toVal_ne_err
    | stuck => simp
theorem gets_ok : ∀ {rs : List RV} {vs : List V} {ds : List D}, Sim K mg S F G P H ev σ → RRvs K mg S F σ rs vs → gets rs ev = some ds → ds.length = vs.length ∧ ∀ (i : Nat) a x, ds[i]? = some a → vs[i]? = some x → Rq K mg F H a x
  | [], vs, ds, M, r, e => by
    cases e
    exact ⟨r.1, fun i a x e1 _ => by simp at e1⟩
  | rv :: rs, [], ds, M, r, e => by have := r.1; simp at this
  | rv :: rs, v :: vs, ds, M, r, e => by
    unfold gets at e
    obtain ⟨d, e1, e⟩ := Option.bind_eq_some_iff.mp e
    obtain ⟨ds2, e2, e⟩ := Option.bind_eq_some_iff.mp e
    cases e
    have rr : RRvs K mg S F σ rs vs := ⟨by simpa using r.1, fun i r' v' e1 e2 => r.2 (i + 1) r' v' (by simpa using e1) (by simpa using e2)⟩
    obtain ⟨l, h⟩ := gets_ok M rr e2
    refine ⟨by simp [l], fun i a x h1 h2 => ?_⟩
    cases i with
    | zero => simp at h1 h2; subst h1; subst h2; exact M.acc (r.2 0 rv v rfl rfl) e1
    | succ i => exact h i a x (by simpa using h1) (by simpa using h2)
theorem tM.val {rv : RV} {v : V} {k : D × Ev → Res (β × Ev)} {post : β → Ev → Hp → Hp → Prop} (M : Sim K mg S F G P H ev σ) (r : RRv K mg S F σ rv v) (h : tM K mg S W G P σ F ((toVal rv ev).bind k) post) : ∃ d ev' F', toVal rv ev = .ok (d, ev') ∧ Same F F' ∧ Sim K mg S F' G P H ev' σ ∧ Rp K mg F' d v ∧ tM K mg S W G P σ F' (k (d, ev')) post := by
  cases q : toVal rv ev with
  | ok p =>
    rw [q] at h
    obtain ⟨F', s, M', r'⟩ := toVal_ok M r q
    exact ⟨p.1, p.2, F', rfl, s, M', r', tM.mono s h⟩
  | err c => exact absurd q toVal_ne_err
  | stuck => rw [q] at h; exact False.elim h
theorem tM.vals {rs : List RV} {vs : List V} {k : List D × Ev → Res (β × Ev)} {post : β → Ev → Hp → Hp → Prop} (M : Sim K mg S F G P H ev σ) (r : RRvs K mg S F σ rs vs) (h : tM K mg S W G P σ F ((vals rs ev).bind k) post) : ∃ ds ev' F', vals rs ev = .ok (ds, ev') ∧ Same F F' ∧ Sim K mg S F' G P H ev' σ ∧ Rps K mg F' ds vs ∧ tM K mg S W G P σ F' (k (ds, ev')) post := by
  cases q : TL.vals rs ev with
  | ok p =>
    rw [q] at h
    obtain ⟨F', s, M', r'⟩ := vals_ok M r q
    exact ⟨p.1, p.2, F', rfl, s, M', r', tM.mono s h⟩
  | err c => exact absurd q vals_ne_err
  | stuck => rw [q] at h; exact False.elim h
end

/-! ### argument lists, displays, calls of built-ins -/
def aNil : DA := fun ev => .ok ([], ev)
def aCons (m : DE) (ms : DA) : DA := fun ev => (m ev).bind fun p => (ms p.2).bind fun q => .ok (p.1 :: q.1, q.2)
def eTup (ms : DA) : DE := fun ev => (ms ev).bind fun p => (vals p.1 p.2).bind fun q => if q.1.length ≤ sizeLine then .ok (.val (.tuple q.1), q.2) else .stuck
def oLst (ms : DA) : DO := fun ev => (ms ev).bind fun p => (vals p.1 p.2).bind fun q => if q.1.length ≤ sizeLine then .ok (.list q.1, q.2) else .stuck
def vCall (g : List D → Option D) (ms : DA) : DE := fun ev => (ms ev).bind fun p => (lift (gets p.1 p.2)).bind fun ds => (lift (g ds)).bind fun d => .ok (.val d, p.2)
def oCall (g : List D → Option D) (ms : DA) : DO := fun ev => (ms ev).bind fun p => (lift (gets p.1 p.2)).bind fun ds => (lift (g ds)).bind fun d => .ok (d, p.2)
section
variable [WC] {X : Cx} {S : Sx} {W : WX} {a b c e : Expr} {es : List Expr} {ma mb mc m n : DE} {ms : DA} {pos : Pos}
theorem sa_nil : PA X [] (tA X.K X.mg S W aNil) := pa_nil.imp fun σ H Q ⟨F, G, P, ev, M, h⟩ => h F H (Same.refl _) M _ RRvs.nil
theorem sa_cons (ha : PE X e (tE X.K X.mg S W m)) (hr : PA X es (tA X.K X.mg S W ms)) (hs : starEach (e :: es) X.env = (false, eval e X.env) :: starEach es X.env := by rfl) : PA X (e :: es) (tA X.K X.mg S W (aCons m ms)) := (pa_cons ha hr hs).imp fun σ H Q ⟨F, G, P, ev, M, h⟩ => by
  refine ⟨F, G, P, ev, M, h.bind.imp fun r1 ev1 F1 H1 _ s1 M1 h1 v rv => ⟨F1, G, P, ev1, M1, h1.bind.imp fun rs ev2 F2 H2 _ s2 M2 h2 vs rvs => ?_⟩⟩
  exact h2 F2 H2 (Same.refl _) M2 _ (RRvs.cons (rv.mono s2) rvs)
theorem sd_tup {x1} (h : PA X es (tA X.K X.mg S W ms)) : PE X (.Tuple es x1 pos) (tE X.K X.mg S W (eTup ms)) := (pe_tup h).imp fun σ H Q ⟨F, G, P, ev, M, h⟩ => by
  refine ⟨F, G, P, ev, M, h.bind.imp fun rs ev1 F1 H1 _ s1 M1 h1 vs rvs => ?_⟩
  obtain ⟨ds, ev2, F2, _, s2, M2, r2, h2⟩ := tM.vals M1 rvs h1
  obtain ⟨hl, h2⟩ := h2.cond
  exact ⟨by rw [← r2.len]; exact hl, fin_tup M2.fr.fh r2 fun F' H' v g r => h2 F' H' g.f (M2.grow g) v r⟩
theorem so_lst (h : PA X es (tA X.K X.mg S W ms)) : PE X (.List es pos) (tO X.K X.mg S W (oLst ms)) := (pe_lst h).imp fun σ H Q ⟨F, G, P, ev, M, h⟩ => by
  refine ⟨F, G, P, ev, M, h.bind.imp fun rs ev1 F1 H1 _ s1 M1 h1 vs rvs => ?_⟩
  obtain ⟨ds, ev2, F2, _, s2, M2, r2, h2⟩ := tM.vals M1 rvs h1
  obtain ⟨hl, h2⟩ := h2.cond
  exact ⟨by rw [← r2.len]; exact hl, fin_own M2.fr.fh r2 fun F' H' p g hp hF o => h2 F' H' g.f (M2.grow g) p o ⟨hF, (FreshAt.of M2 hp).2⟩⟩
theorem core_call {g : List D → Option D} {σ : L2.St} {H : Hp} {Q : VK} (h : tE X.K X.mg S W (vCall g ms) σ H Q) : tCB (rVs X.K X.mg g) (tA X.K X.mg S W ms) σ H Q := by
  obtain ⟨F, G, P, ev, M, h⟩ := h
  refine ⟨F, G, P, ev, M, h.bind.imp fun rs ev1 F1 H1 _ s1 M1 h1 vs rvs => ?_⟩
  obtain ⟨ds, e1, h1⟩ := h1.lift
  obtain ⟨d, e2, h1⟩ := h1.lift
  obtain ⟨l, q⟩ := gets_ok M1 rvs e1
  exact ⟨F1, ds, d, M1.fr.fh, l, q, e2, fun F' H' v' g r => h1 F' H' g.f (M1.grow g) v' r⟩
theorem core_ocall {g : List D → Option D} {σ : L2.St} {H : Hp} {Q : VK} (h : tO X.K X.mg S W (oCall g ms) σ H Q) : tCB (rOs X.K X.mg g) (tA X.K X.mg S W ms) σ H Q := by
  obtain ⟨F, G, P, ev, M, h⟩ := h
  refine ⟨F, G, P, ev, M, h.bind.imp fun rs ev1 F1 H1 _ s1 M1 h1 vs rvs => ?_⟩
  obtain ⟨ds, e1, h1⟩ := h1.lift
  obtain ⟨d, e2, h1⟩ := h1.lift
  obtain ⟨l, q⟩ := gets_ok M1 rvs e1
  exact ⟨F1, ds, d, M1.fr.fh, l, q, e2, fun F' H' p g hp hF o => h1 F' H' g.f (M1.grow g) p o ⟨hF, (FreshAt.of M1 hp).2⟩⟩
variable {x : Str} {p : Pos} {id T : String}
theorem sd_callB {g : List D → Option D} (hc : CallR X (.builtin id) (rVs X.K X.mg g)) (hg : Gl X x) (hm : X.mg x = none) (hv : bootBuiltins x = some (.builtin id)) (ha : PA X (e :: es) (tA X.K X.mg S W ms)) (hn : x ≠ "__name__" := by decide) (hdb : (x == ("__debug__" : Str)) = false := by decide)
    (he : starEach (e :: es) X.env = (false, eval e X.env) :: starEach es X.env := by rfl) (hpl : (backTo pos (starEach es X.env)).any (·.1) = false := by rfl) : PE X (.Call (.Name x p) (e :: es) [] pos) (tE X.K X.mg S W (vCall g ms)) := (pe_callB hc hg hm hv ha hn hdb he hpl).imp fun _ _ _ h => core_call h
theorem so_callB {g : List D → Option D} (hc : CallR X (.builtin id) (rOs X.K X.mg g)) (hg : Gl X x) (hm : X.mg x = none) (hv : bootBuiltins x = some (.builtin id)) (ha : PA X (e :: es) (tA X.K X.mg S W ms)) (hn : x ≠ "__name__" := by decide) (hdb : (x == ("__debug__" : Str)) = false := by decide)
    (he : starEach (e :: es) X.env = (false, eval e X.env) :: starEach es X.env := by rfl) (hpl : (backTo pos (starEach es X.env)).any (·.1) = false := by rfl) : PE X (.Call (.Name x p) (e :: es) [] pos) (tO X.K X.mg S W (oCall g ms)) := (pe_callB hc hg hm hv ha hn hdb he hpl).imp fun _ _ _ h => core_ocall h
theorem sd_callTy {g : List D → Option D} (hc : CallR X (.type T) (rVs X.K X.mg g)) (hg : Gl X x) (hm : X.mg x = none) (hv : bootBuiltins x = some (.type T)) (ha : PA X (e :: es) (tA X.K X.mg S W ms)) (hn : x ≠ "__name__" := by decide) (hdb : (x == ("__debug__" : Str)) = false := by decide)
    (he : starEach (e :: es) X.env = (false, eval e X.env) :: starEach es X.env := by rfl) (hpl : (backTo pos (starEach es X.env)).any (·.1) = false := by rfl) : PE X (.Call (.Name x p) (e :: es) [] pos) (tE X.K X.mg S W (vCall g ms)) := (pe_callTy hc hg hm hv ha hn hdb he hpl).imp fun _ _ _ h => core_call h
theorem so_callTy {g : List D → Option D} (hc : CallR X (.type T) (rOs X.K X.mg g)) (hg : Gl X x) (hm : X.mg x = none) (hv : bootBuiltins x = some (.type T)) (ha : PA X (e :: es) (tA X.K X.mg S W ms)) (hn : x ≠ "__name__" := by decide) (hdb : (x == ("__debug__" : Str)) = false := by decide)
    (he : starEach (e :: es) X.env = (false, eval e X.env) :: starEach es X.env := by rfl) (hpl : (backTo pos (starEach es X.env)).any (·.1) = false := by rfl) : PE X (.Call (.Name x p) (e :: es) [] pos) (tO X.K X.mg S W (oCall g ms)) := (pe_callTy hc hg hm hv ha hn hdb he hpl).imp fun _ _ _ h => core_ocall h
/-- a built-in function that the module has imported (math.gcd) -/
theorem sd_callM {g : List D → Option D} (hc : CallR X (.builtin id) (rVs X.K X.mg g)) (hg : Gl X x) (hm : X.mg x = some (.builtin id)) (ha : PA X (e :: es) (tA X.K X.mg S W ms)) (hdb : (x == ("__debug__" : Str)) = false := by decide)
    (he : starEach (e :: es) X.env = (false, eval e X.env) :: starEach es X.env := by rfl) (hpl : (backTo pos (starEach es X.env)).any (·.1) = false := by rfl) : PE X (.Call (.Name x p) (e :: es) [] pos) (tE X.K X.mg S W (vCall g ms)) := (pe_callBfun hc hg hm ha hdb he hpl).imp fun _ _ _ h => core_call h
end
end TL

set_option Elab.async false
set_option linter.all false
set_option maxRecDepth 100000
namespace TL
open PySem PySem.Spec PyProof.Rows L2

section
variable [WC] {K : PySem.W.Frag} {mg : Str → Option Value} {F H : Hp}
theorem rq1 {a : D} {xs : List V} (l : [a].length = xs.length) (q : ∀ (i : Nat) b x, [a][i]? = some b → xs[i]? = some x → Rq K mg F H b x) : ∃ x, xs = [x] ∧ Rq K mg F H a x := by
  match xs, l with
  | [x], _ => exact ⟨x, rfl, q 0 a x rfl rfl⟩
theorem rq2 {a b : D} {xs : List V} (l : [a, b].length = xs.length) (q : ∀ (i : Nat) c x, [a, b][i]? = some c → xs[i]? = some x → Rq K mg F H c x) : ∃ x y, xs = [x, y] ∧ Rq K mg F H a x ∧ Rq K mg F H b y := by
  match xs, l with
  | [x, y], _ => exact ⟨x, y, rfl, q 0 a x rfl rfl, q 1 b y rfl rfl⟩
end

/-! ### len, abs, int, tuple, list, sum, gcd -/
/-- a dict whose keys are of one sort -/
def dicS (kvs : List (D × D)) : Bool := (kvs.all fun p => isTup p.1) || kvs.all fun p => isSc p.1
def gLen : List D → Option D
  | [.dict kvs] => if dicS kvs then some (.int kvs.length) else none
  | [.list xs] => some (.int xs.length)
  | [.tuple xs] => some (.int xs.length)
  | [.str z] => if z.length ≤ sizeLine then some (.int z.length) else none
  | _ => none
def gAbs : List D → Option D
  | [.int i] => some (.int (if i < 0 then -i else i))
  | _ => none
def gInt : List D → Option D
  | [.int i] => some (.int i)
  | [.bool b] => some (.int (if b then 1 else 0))
  | _ => none
def gTuple : List D → Option D
  | [.list xs] => some (.tuple xs)
  | [.tuple xs] => some (.tuple xs)
  | _ => none
def gList : List D → Option D
  | [.list xs] => some (.list xs)
  | [.tuple xs] => some (.list xs)
  | [.dict [(.dict [], .list xs)]] => some (.list xs)
  | [.dict kvs] => if dicS kvs then some (.list (kvs.map (·.1))) else none
  | _ => none
def intsOf : List D → Option (List Int)
  | [] => some []
  | .int i :: r => (intsOf r).map (i :: ·)
  | _ :: _ => none
def boolsOf : List D → Option (List Bool)
  | [] => some []
  | .bool i :: r => (boolsOf r).map (i :: ·)
  | _ :: _ => none
theorem ints_eq : ∀ {ds : List D} {ns : List Int}, intsOf ds = some ns → ds = ns.map PyData.int
  | [], ns, h => by cases h; rfl
  | .int i :: r, ns, h => by
    obtain ⟨m, e, rfl⟩ := Option.map_eq_some_iff.mp (show (intsOf r).map (i :: ·) = some ns from h)
    rw [ints_eq e]; rfl
  | .none :: _, _, h | .bool _ :: _, _, h | .str _ :: _, _, h | .list _ :: _, _, h | .tuple _ :: _, _, h | .dict _ :: _, _, h => by cases h
theorem bools_eq : ∀ {ds : List D} {ns : List Bool}, boolsOf ds = some ns → ds = ns.map PyData.bool
  | [], ns, h => by cases h; rfl
  | .bool i :: r, ns, h => by
    obtain ⟨m, e, rfl⟩ := Option.map_eq_some_iff.mp (show (boolsOf r).map (i :: ·) = some ns from h)
    rw [bools_eq e]; rfl
  | .none :: _, _, h | .int _ :: _, _, h | .str _ :: _, _, h | .list _ :: _, _, h | .tuple _ :: _, _, h | .dict _ :: _, _, h => by cases h
@[simp] theorem ints_map (ns : List Int) : intsOf (ns.map PyData.int) = some ns := by
  induction ns with
  | nil => rfl
  | cons n ns ih => simp only [List.map_cons, intsOf, ih, Option.map_some]
@[simp] theorem bools_map (ns : List Bool) : boolsOf (ns.map PyData.bool) = some ns := by
  induction ns with
  | nil => rfl
  | cons n ns ih => simp only [List.map_cons, boolsOf, ih, Option.map_some]
theorem Rps.bools [WC] {K : PySem.W.Frag} {mg : Str → Option Value} {F : Hp} : ∀ {ns : List Bool} {vs : List V}, Rps K mg F (ns.map PyData.bool) vs → vs = ns.map V.bl
  | [], vs, h => by simpa [Rps] using h
  | n :: ns, vs, h => by
    simp only [List.map_cons, Rps, Rp] at h
    obtain ⟨v, r, rfl, rfl, q⟩ := h
    rw [Rps.bools q]; rfl
def gSum : List D → Option D
  | [.list xs] => (intsOf xs).map fun ns => .int ns.sum
  | _ => none
def gAll : List D → Option D
  | [.list xs] => (boolsOf xs).map fun bs => .bool (bs.all id)
  | _ => none
def gAny : List D → Option D
  | [.list xs] => (boolsOf xs).map fun bs => .bool (bs.any id)
  | _ => none
def gGcd : List D → Option D
  | [.int a, .int b] => some (.int ((Nat.gcd a.natAbs b.natAbs : Nat) : Int))
  | _ => none
section
variable [WC] {X : Cx}
theorem dicS_p {kvs : List (D × D)} (h : dicS kvs = true) : (∀ p ∈ kvs, isTup p.1 = true) ∨ ∀ p ∈ kvs, isSc p.1 = true := by
  unfold dicS at h
  simpa [List.all_eq_true] using h
theorem Rq.dicS {K : PySem.W.Frag} {mg : Str → Option Value} {F H : Hp} {v : V} {kvs : List (D × D)} (h : Rq K mg F H (.dict kvs) v) (hk : TL.dicS kvs = true) : dicR K mg F H kvs v := by
  have hs := dicS_p hk
  rcases h with (⟨_, _, z, _⟩ | ⟨_, z, _⟩ | ⟨_, _, z, _⟩) | h
  · subst z; rcases hs with h | h <;> exact absurd (h _ List.mem_cons_self) (by simp [isTup, isSc])
  · subst z; rcases hs with h | h <;> exact absurd (h _ List.mem_cons_self) (by simp [isTup, isSc])
  · subst z; rcases hs with h | h <;> exact absurd (h _ List.mem_cons_self) (by simp [isTup, isSc])
  · exact h
theorem rkv_cols {K : PySem.W.Frag} {mg : Str → Option Value} {F : Hp} : ∀ {kvs : List (D × D)} {ps : List E3}, Rkv K mg F kvs ps → Rps K mg F (kvs.map (·.1)) (ps.map fun p => p.2.1) ∧ Rps K mg F (kvs.map (·.2)) (ps.map fun p => p.2.2)
  | [], ps, h => by simp only [Rkv] at h; subst h; exact ⟨by simp only [List.map_nil, Rps], by simp only [List.map_nil, Rps]⟩
  | (a, b) :: kvs, ps, h => by
    simp only [Rkv, Rk1] at h
    obtain ⟨e, r, rfl, ⟨_, h1, h2⟩, h3⟩ := h
    obtain ⟨q1, q2⟩ := rkv_cols h3
    simp only [List.map_cons, Rps]
    exact ⟨⟨_, _, rfl, h1, q1⟩, ⟨_, _, rfl, h2, q2⟩⟩
theorem ent_cols {ps : List E3} {es : List DictEntry} (h : Paired EntR ps es) : Vals (ps.map fun p => p.2.1) (es.map (·.key)) ∧ Vals (ps.map fun p => p.2.2) (es.map (·.val)) := by
  induction h with
  | nil => exact ⟨.nil, .nil⟩
  | cons h t ih => exact ⟨.cons h.2.1 ih.1, .cons h.2.2 ih.2⟩
theorem items_key {es : Array DictEntry} {acc : Array Value} (h : ItemsOf (fun i v => ∃ hi : i < es.size, v = es[i].key) acc es.size) : acc.toList = es.toList.map (·.key) := by
  obtain ⟨h1, h2⟩ := h
  apply List.ext_getElem?
  intro i
  rw [List.getElem?_map, Array.getElem?_toList, Array.getElem?_toList]
  by_cases hi : i < es.size
  · have ha : acc[i]? = some acc[i] := Array.getElem?_eq_getElem (by omega)
    obtain ⟨_, e⟩ := h2 i _ ha
    rw [ha, e, Array.getElem?_eq_getElem hi]
    rfl
  · rw [Array.getElem?_eq_none (by omega), Array.getElem?_eq_none (by omega)]
    rfl
/-- list(d) -/
theorem dic_list {pins : List (Addr × Obj)} {σ : L2.St} {H F : Hp} {s : Shared} {kvs : List (D × D)} {v : V} {vu : Value} {E : Value → Shared → Prop} {Q : Value → Shared → Prop} (I : Inv X pins σ H s) (hc : X.calm = true) (sm : Same F H) (hd : dicR X.K X.mg F H kvs v) (rv : RelV v vu)
    (hQ : ∀ vs p s', H p = none → Rps X.K X.mg F (kvs.map (·.1)) vs → Inv X pins σ (upd H p (.lst vs)) s' → Q (.ref p) s') : wpAny (model X.prog X.w) X.A (call (.type "list") [vu]) Q E s := by
  obtain ⟨a, ps, rfl, hs, hc2, hr, hn, hl⟩ := hd
  cases rv
  obtain ⟨o, es, ep, e1, e2, e3, e4⟩ := dic_raw I hc2
  obtain ⟨r1, _⟩ := rkv_cols hr
  obtain ⟨v1, _⟩ := ent_cols e4
  have l1 := r1.len
  have l2 := v1.length
  simp only [List.length_map, Array.length_toList] at l1 l2
  refine PySem.W.kdl_call (KdlSrc.rawDict hs) (I.ok.hd hc) ⟨o, e1, e2, e3⟩ (by omega) fun h' tk acc c k g it => ?_
  have e := items_key it
  refine hQ (ps.map fun p => p.2.1) _ _ (I.hok.fresh (Nat.le_refl _)) r1 (I.laid (t' := tk) k (Nat.le_refl _) ⟨by rw [List.length_map]; omega, acc.toList, c, by rw [e]; exact v1, by simpa using g⟩)
theorem dic_len {pins : List (Addr × Obj)} {σ : L2.St} {H F : Hp} {s : Shared} {kvs : List (D × D)} {v : V} {vu : Value} {E : Value → Shared → Prop} {Q : Value → Shared → Prop} (I : Inv X pins σ H s) (hw : X.w = WC.w) (sm : Same F H) (hd : dicR X.K X.mg F H kvs v) (hk : dicS kvs = true) (rv : RelV v vu)
    (hQ : ∀ tk t, Q (.int kvs.length t) { s with toks := tk }) : wpAny (model X.prog X.w) X.A (call (.builtin "len") [vu]) Q E s := by
  obtain ⟨a, ps, rfl, hs, hc2, hr, hn, hl⟩ := hd
  cases rv
  rw [sizeLine_eq] at hl
  rcases dicS_p hk with t | t
  · obtain ⟨xs, x1, x2⟩ := keyed_of I hw sm hc2 hr hn t
    have hx := Paired.length x2
    refine PyProof.Rows.call_len_slot (n := (kvs.length : Nat)) x1.typeIs PySem.F.slot_dict_len (fun Q' hq => len_keyed (knd := nestedKind X.prog X.w) (kvs := pairsH xs) hs ⟨xs, x1, rfl⟩ ?_) (by omega) (by omega) (hQ _ _)
    rw [pairsH_length, ← hx]
    exact hq
  · obtain ⟨vs, x1, x2⟩ := mix_of I hw hc2 hr hn t
    have hx := Paired.length x2
    refine call_len_dict hs x1 (by omega) ?_
    rw [← hx]
    exact hQ _ _
theorem call_gLen (hw : X.w = WC.w := by rfl) : CallR X (.builtin "len") (rVs X.K X.mg gLen) := by
  intro pins s σ H xs us Q I r h
  obtain ⟨F, as, d, sm, l, q, e, k⟩ := h
  unfold gLen at e
  split at e
  · split at e
    · rename_i hk
      cases e
      obtain ⟨x, rfl, qx⟩ := rq1 l q
      obtain ⟨u, rfl, rx⟩ := L2.vals1 r
      exact dic_len I hw sm (qx.dicS hk) hk rx fun tk t => ⟨.int _, H, I.tok _, ⟨t, rfl⟩, k F H _ (Grow.refl _ _) (rp_int _)⟩
    · cases e
  · cases e
    obtain ⟨x, rfl, qx⟩ := rq1 l q
    obtain ⟨a, vs, rfl, h1, r1⟩ := qx.list
    exact call_len pins s σ H _ us Q I r ⟨_, vs.length, rfl, .inl ⟨vs, .inl h1, rfl⟩, k F H _ (Grow.refl _ _) (by rw [r1.len]; exact rp_int _)⟩
  · cases e
    obtain ⟨x, rfl, qx⟩ := rq1 l q
    obtain ⟨a, vs, rfl, h1, r1⟩ := qx.tuple
    exact call_len pins s σ H _ us Q I r ⟨_, vs.length, rfl, .inr ⟨vs, SqT_mono sm h1, rfl⟩, k F H _ (Grow.refl _ _) (by rw [r1.len]; exact rp_int _)⟩
  · split at e
    · cases e
      obtain ⟨x, rfl, qx⟩ := rq1 l q
      obtain rfl := qx.str
      exact call_len pins s σ H _ us Q I r ⟨_, _, rfl, ⟨by assumption, rfl⟩, k F H _ (Grow.refl _ _) (rp_int _)⟩
    · cases e
  · cases e
theorem call_gAbs : CallR X (.builtin "abs") (rVs X.K X.mg gAbs) := by
  intro pins s σ H xs us Q I r h
  obtain ⟨F, as, d, sm, l, q, e, k⟩ := h
  unfold gAbs at e
  split at e
  · cases e
    obtain ⟨x, rfl, qx⟩ := rq1 l q
    obtain rfl := qx.int
    exact call_abs pins s σ H _ us Q I r ⟨_, rfl, k F H _ (Grow.refl _ _) (rp_int _)⟩
  · cases e
theorem call_gInt : CallR X (.type "int") (rVs X.K X.mg gInt) := by
  intro pins s σ H xs us Q I r h
  obtain ⟨F, as, d, sm, l, q, e, k⟩ := h
  unfold gInt at e
  split at e
  · cases e
    obtain ⟨x, rfl, qx⟩ := rq1 l q
    obtain rfl := qx.int
    exact call_int1 pins s σ H _ us Q I r (.inl ⟨_, rfl, k F H _ (Grow.refl _ _) (rp_int _)⟩)
  · cases e
    obtain ⟨x, rfl, qx⟩ := rq1 l q
    obtain rfl := qx.bool
    exact call_int1 pins s σ H _ us Q I r (.inr ⟨_, rfl, k F H _ (Grow.refl _ _) (rp_int _)⟩)
  · cases e
theorem call_gTuple : CallR X (.type "tuple") (rVs X.K X.mg gTuple) := by
  intro pins s σ H xs us Q I r h
  obtain ⟨F, as, d, sm, l, q, e, k⟩ := h
  unfold gTuple at e
  split at e
  · cases e
    obtain ⟨x, rfl, qx⟩ := rq1 l q
    obtain ⟨a, vs, rfl, h1, r1⟩ := qx.list
    exact call_tuple_of pins s σ H _ us Q I r ⟨_, vs, rfl, .inl ⟨.inl h1, fin_tup sm r1 k⟩⟩
  · cases e
    obtain ⟨x, rfl, qx⟩ := rq1 l q
    have qx' := qx
    obtain ⟨a, vs, rfl, h1, r1⟩ := qx.tuple
    exact call_tuple_of pins s σ H _ us Q I r ⟨_, vs, rfl, .inr ⟨SqT_mono sm h1, k F H _ (Grow.refl _ _) qx'⟩⟩
  · cases e
theorem rps_ints {K : PySem.W.Frag} {mg : Str → Option Value} {F : Hp} : ∀ ns : List Int, Rps K mg F (ns.map PyData.int) (ns.map V.int)
  | [] => by simp [Rps]
  | n :: ns => by simp only [List.map_cons, Rps, Rp]; exact ⟨_, _, rfl, rfl, rps_ints ns⟩
theorem call_gList (hcm : X.calm = true) : CallR X (.type "list") (rOs X.K X.mg gList) := by
  intro pins s σ H xs us Q I r h
  obtain ⟨F, as, d, sm, l, q, e, k⟩ := h
  unfold gList at e
  split at e
  · cases e
    obtain ⟨x, rfl, qx⟩ := rq1 l q
    obtain ⟨a, vs, rfl, h1, r1⟩ := qx.list
    exact call_list_of pins s σ H _ us Q I r ⟨_, vs, rfl, .inl (.inl h1), fin_own sm r1 k⟩
  · cases e
    obtain ⟨x, rfl, qx⟩ := rq1 l q
    obtain ⟨a, vs, rfl, h1, r1⟩ := qx.tuple
    exact call_list_of pins s σ H _ us Q I r ⟨_, vs, rfl, .inr (SqT_mono sm h1), fin_own sm r1 k⟩
  · cases e
    obtain ⟨x, rfl, qx⟩ := rq1 l q
    rename_i zs
    rcases qx with (⟨_, _, z, _⟩ | ⟨_, z, _⟩ | ⟨ns, a, z, rfl, h1⟩) | ⟨_, _, _, _, _, z, _⟩
    · cases z
    · cases z
    · have ez : zs = ns.map PyData.int := by
        have := congrArg (fun l => l.head?.map Prod.snd) z
        simpa using this
      subst ez
      exact call_list_of pins s σ H _ us Q I r ⟨_, _, rfl, .inl (Same.seq sm h1), fin_own sm (rps_ints _) k⟩
    · simp only [Rkv, Rk1, keyD] at z
      obtain ⟨_, _, _, ⟨⟨_, z, _⟩, _⟩, _⟩ := z
      cases z
  · split at e
    · rename_i hk
      cases e
      obtain ⟨x, rfl, qx⟩ := rq1 l q
      obtain ⟨u, rfl, rx⟩ := L2.vals1 r
      exact dic_list I hcm sm (qx.dicS hk) rx fun vs p s' hp rp I' => ⟨.ref p, _, I', rfl, fin_own sm rp k p hp⟩
    · cases e
  · cases e
theorem call_gSum (hc : X.calm = true) : CallR X (.builtin "sum") (rVs X.K X.mg gSum) := by
  intro pins s σ H xs us Q I r h
  obtain ⟨F, as, d, sm, l, q, e, k⟩ := h
  unfold gSum at e
  split at e
  · obtain ⟨ns, e1, rfl⟩ := Option.map_eq_some_iff.mp e
    obtain ⟨x, rfl, qx⟩ := rq1 l q
    obtain ⟨a, vs, rfl, h1, r1⟩ := qx.list
    rw [ints_eq e1] at r1
    rw [Rps.ints r1] at h1
    exact cr_sum hc pins s σ H _ us Q I r ⟨_, ns, rfl, .inl h1, k F H _ (Grow.refl _ _) (rp_int _)⟩
  · cases e
theorem call_gAll (hc : X.calm = true) : CallR X (.builtin "all") (rVs X.K X.mg gAll) := by
  intro pins s σ H xs us Q I r h
  obtain ⟨F, as, d, sm, l, q, e, k⟩ := h
  unfold gAll at e
  split at e
  · obtain ⟨ns, e1, rfl⟩ := Option.map_eq_some_iff.mp e
    obtain ⟨x, rfl, qx⟩ := rq1 l q
    obtain ⟨a, vs, rfl, h1, r1⟩ := qx.list
    rw [bools_eq e1] at r1
    rw [Rps.bools r1] at h1
    exact cr_all hc pins s σ H _ us Q I r ⟨_, ns, rfl, .inl h1, k F H _ (Grow.refl _ _) (rp_bool _)⟩
  · cases e
theorem call_gAny (hc : X.calm = true) : CallR X (.builtin "any") (rVs X.K X.mg gAny) := by
  intro pins s σ H xs us Q I r h
  obtain ⟨F, as, d, sm, l, q, e, k⟩ := h
  unfold gAny at e
  split at e
  · obtain ⟨ns, e1, rfl⟩ := Option.map_eq_some_iff.mp e
    obtain ⟨x, rfl, qx⟩ := rq1 l q
    obtain ⟨a, vs, rfl, h1, r1⟩ := qx.list
    rw [bools_eq e1] at r1
    rw [Rps.bools r1] at h1
    exact cr_any hc pins s σ H _ us Q I r ⟨_, ns, rfl, .inl h1, k F H _ (Grow.refl _ _) (rp_bool _)⟩
  · cases e
theorem call_gGcd : CallR X (.builtin "math.gcd") (rVs X.K X.mg gGcd) := by
  intro pins s σ H xs us Q I r h
  obtain ⟨F, as, d, sm, l, q, e, k⟩ := h
  unfold gGcd at e
  split at e
  · cases e
    obtain ⟨x, y, rfl, qx, qy⟩ := rq2 l q
    obtain rfl := qx.int
    obtain rfl := qy.int
    exact cr_gcd pins s σ H _ us Q I r ⟨_, _, rfl, k F H _ (Grow.refl _ _) (rp_int _)⟩
  · cases e

/-! ### min, max -/
def minOk (x : D) (xs : List D) : Bool := okD (.list (x :: xs)) && (x :: xs).all (fun a => (x :: xs).all fun b => PySem.W.alike a b) && (x :: xs).all fun a => !isNone a
def gMin : List D → Option D
  | [.list (x :: xs)] => if minOk x xs then some (PySem.W.minD x xs) else none
  | [.tuple (x :: xs)] => if minOk x xs then some (PySem.W.minD x xs) else none
  | [.int i, .int j] => some (.int (if j < i then j else i))
  | _ => none
def gMax : List D → Option D
  | [.list (x :: xs)] => if minOk x xs then some (PySem.W.maxD x xs) else none
  | [.tuple (x :: xs)] => if minOk x xs then some (PySem.W.maxD x xs) else none
  | [.int i, .int j] => some (.int (if j > i then j else i))
  | _ => none
theorem minOk_p {x : D} {xs : List D} (h : minOk x xs = true) : PyData.plainAll (x :: xs) = true ∧ PyData.depthAll (x :: xs) ≤ 60 ∧ PySem.W.AlikeAll (x :: xs) := by
  unfold minOk at h
  simp only [Bool.and_eq_true, List.all_eq_true, Bool.not_eq_true'] at h
  obtain ⟨⟨h1, h2⟩, h3⟩ := h
  obtain ⟨p, d⟩ := okD_p h1
  simp only [PyData.plain, PyData.depth] at p d
  exact ⟨p, by omega, h2, fun a ha => isNone_ne (h3 a ha)⟩
theorem item_rp {K : PySem.W.Frag} {mg : Str → Option Value} {F : Hp} {ds : List D} {vs : List V} {its : List Value} {i : Nat} {v : Value} (r : Rps K mg F ds vs) (rv : Vals vs its) (hi : its[i]? = some v) : ∃ d x, ds[i]? = some d ∧ vs[i]? = some x ∧ RelV x v ∧ Rp K mg F d x := by
  have hlt : i < its.length := (List.getElem?_eq_some_iff.mp hi).1
  have l1 := r.len
  have l2 := rv.length
  have hd : i < ds.length := by omega
  obtain ⟨x, hx, q⟩ := Rps.get r (List.getElem?_eq_getElem hd)
  obtain ⟨u, hu, ru⟩ := rv.get hx
  rw [hi] at hu
  cases hu
  exact ⟨_, x, List.getElem?_eq_getElem hd, hx, ru, q⟩
theorem plain_at : ∀ {ds : List D} {i : Nat} {d : D}, PyData.plainAll ds = true → ds[i]? = some d → d.plain = true
  | [], _, _, _, e => by simp at e
  | a :: ds, 0, d, h, e => by
    simp only [PyData.plainAll, Bool.and_eq_true] at h
    simp at e; subst e; exact h.1
  | a :: ds, i + 1, d, h, e => by
    simp only [PyData.plainAll, Bool.and_eq_true] at h
    exact plain_at (i := i) h.2 (by simpa using e)
theorem call_gMin (hc : X.calm = true) (hu : X.A.units + 64 < cLine) : CallR X (.builtin "min") (rVs X.K X.mg gMin) := by
  intro pins s σ H xs us Q I r h
  obtain ⟨F, as, d, sm, l, q, e, k⟩ := h
  unfold gMin at e
  split at e
  · split at e
    · rename_i hm
      cases e
      obtain ⟨p, dd, al⟩ := minOk_p hm
      obtain ⟨x', rfl, qx⟩ := rq1 l q
      obtain ⟨a, vs, rfl, h1, r1⟩ := qx.list
      obtain ⟨z, its, n, rv, _, ho⟩ := Inv.lstR I h1
      obtain ⟨bs, hr⟩ := Rps.reads I _ vs its p (Rps.mono sm _ _ r1) rv
      rw [Vals.ref1 r]
      refine PySem.W.min_list_data (vs := its.toArray) (I.ok.hd hc) ⟨_, ho, rfl, _, rfl⟩ (by simpa using hr) al (by omega) fun i v h' tk bs hv hm' hk => ?_
      obtain ⟨d, x, e1, e2, e3, e4⟩ := item_rp r1 rv (show its[i]? = some v by simpa using hv)
      have pd := plain_at p e1
      obtain ⟨cs, hd⟩ := Rp.reads I d x v pd (Rp.mono sm _ _ e4) e3
      have := PySem.SeqAt.plain_unique d _ v cs bs pd (PySem.W.reads_keeps hk hd) hm'
      rw [← this] at k
      exact ⟨x, H, I.kept hk, e3, k F H _ (Grow.refl _ _) e4⟩
    · cases e
  · split at e
    · rename_i hm
      cases e
      obtain ⟨p, dd, al⟩ := minOk_p hm
      obtain ⟨x', rfl, qx⟩ := rq1 l q
      obtain ⟨a, vs, rfl, h1, r1⟩ := qx.tuple
      obtain ⟨its, rv, ⟨ob, ho, hcl, n, hd⟩, _⟩ := I.tuple (SqT_mono sm h1)
      obtain ⟨bs, hr⟩ := Rps.reads I _ vs its p (Rps.mono sm _ _ r1) rv
      rw [Vals.ref1 r]
      refine PySem.W.min_tuple_data (vs := its.toArray) (I.ok.hd hc) ⟨_, ho, hcl, n, hd⟩ (by simpa using hr) al (by omega) fun i v h' tk bs hv hm' hk => ?_
      obtain ⟨d, x, e1, e2, e3, e4⟩ := item_rp r1 rv (show its[i]? = some v by simpa using hv)
      have pd := plain_at p e1
      obtain ⟨cs, hd⟩ := Rp.reads I d x v pd (Rp.mono sm _ _ e4) e3
      have := PySem.SeqAt.plain_unique d _ v cs bs pd (PySem.W.reads_keeps hk hd) hm'
      rw [← this] at k
      exact ⟨x, H, I.kept hk, e3, k F H _ (Grow.refl _ _) e4⟩
    · cases e
  · cases e
    obtain ⟨x, y, rfl, qx, qy⟩ := rq2 l q
    obtain rfl := qx.int
    obtain rfl := qy.int
    exact call_min2 hc pins s σ H _ us Q I r ⟨_, _, rfl, k F H _ (Grow.refl _ _) (rp_int _)⟩
  · cases e
theorem call_gMax (hc : X.calm = true) (hu : X.A.units + 64 < cLine) : CallR X (.builtin "max") (rVs X.K X.mg gMax) := by
  intro pins s σ H xs us Q I r h
  obtain ⟨F, as, d, sm, l, q, e, k⟩ := h
  unfold gMax at e
  split at e
  · split at e
    · rename_i hm
      cases e
      obtain ⟨p, dd, al⟩ := minOk_p hm
      obtain ⟨x', rfl, qx⟩ := rq1 l q
      obtain ⟨a, vs, rfl, h1, r1⟩ := qx.list
      obtain ⟨z, its, n, rv, _, ho⟩ := Inv.lstR I h1
      obtain ⟨bs, hr⟩ := Rps.reads I _ vs its p (Rps.mono sm _ _ r1) rv
      rw [Vals.ref1 r]
      refine PySem.W.max_list_data (vs := its.toArray) (I.ok.hd hc) ⟨_, ho, rfl, _, rfl⟩ (by simpa using hr) al (by omega) fun i v h' tk bs hv hm' hk => ?_
      obtain ⟨d, x, e1, e2, e3, e4⟩ := item_rp r1 rv (show its[i]? = some v by simpa using hv)
      have pd := plain_at p e1
      obtain ⟨cs, hd⟩ := Rp.reads I d x v pd (Rp.mono sm _ _ e4) e3
      have := PySem.SeqAt.plain_unique d _ v cs bs pd (PySem.W.reads_keeps hk hd) hm'
      rw [← this] at k
      exact ⟨x, H, I.kept hk, e3, k F H _ (Grow.refl _ _) e4⟩
    · cases e
  · split at e
    · rename_i hm
      cases e
      obtain ⟨p, dd, al⟩ := minOk_p hm
      obtain ⟨x', rfl, qx⟩ := rq1 l q
      obtain ⟨a, vs, rfl, h1, r1⟩ := qx.tuple
      obtain ⟨its, rv, ⟨ob, ho, hcl, n, hd⟩, _⟩ := I.tuple (SqT_mono sm h1)
      obtain ⟨bs, hr⟩ := Rps.reads I _ vs its p (Rps.mono sm _ _ r1) rv
      rw [Vals.ref1 r]
      refine PySem.W.max_tuple_data (vs := its.toArray) (I.ok.hd hc) ⟨_, ho, hcl, n, hd⟩ (by simpa using hr) al (by omega) fun i v h' tk bs hv hm' hk => ?_
      obtain ⟨d, x, e1, e2, e3, e4⟩ := item_rp r1 rv (show its[i]? = some v by simpa using hv)
      have pd := plain_at p e1
      obtain ⟨cs, hd⟩ := Rp.reads I d x v pd (Rp.mono sm _ _ e4) e3
      have := PySem.SeqAt.plain_unique d _ v cs bs pd (PySem.W.reads_keeps hk hd) hm'
      rw [← this] at k
      exact ⟨x, H, I.kept hk, e3, k F H _ (Grow.refl _ _) e4⟩
    · cases e
  · cases e
    obtain ⟨x, y, rfl, qx, qy⟩ := rq2 l q
    obtain rfl := qx.int
    obtain rfl := qy.int
    exact call_max2 hc pins s σ H _ us Q I r ⟨_, _, rfl, k F H _ (Grow.refl _ _) (rp_int _)⟩
  · cases e

/-! ### sorted -/
def sortOk (ds : List D) : Bool := okD (.list ds) && ds.all (fun a => ds.all fun b => PySem.W.alike a b) && (ds.all (fun a => match a with | .tuple (_ :: _) => true | _ => false) || ds.all fun a => match a with | .none => false | .tuple _ => false | _ => true)
def sortD (ds : List D) : List D := ds.mergeSort (PySem.W.dataLe false fun b => b)
def gSorted : List D → Option D
  | [.list ds] => if sortOk ds then some (.list (sortD ds)) else none
  | [.tuple ds] => if sortOk ds then some (.list (sortD ds)) else none
  | [.dict kvs] => if dicS kvs && sortOk (kvs.map (·.1)) then some (.list (sortD (kvs.map (·.1)))) else none
  | _ => none
theorem sortOk_p {ds : List D} (h : sortOk ds = true) : PyData.plainAll ds = true ∧ PyData.depthAll ds ≤ 60 ∧ PySem.W.AllAlike ds ∧ PySem.W.Sortable ds := by
  unfold sortOk at h
  simp only [Bool.and_eq_true, Bool.or_eq_true, List.all_eq_true] at h
  obtain ⟨⟨h1, h2⟩, h3⟩ := h
  obtain ⟨p, d⟩ := okD_p h1
  simp only [PyData.plain, PyData.depth] at p d
  refine ⟨p, by omega, fun a ha b hb => h2 a ha b hb, ?_⟩
  rcases h3 with h3 | h3
  · refine .inl fun a ha => ?_
    have := h3 a ha
    split at this
    · exact ⟨_, _, rfl⟩
    · cases this
  · refine .inr fun a ha => ?_
    have := h3 a ha
    split at this
    · cases this
    · cases this
    · rename_i n1 n2
      exact ⟨fun z => n1 z, fun xs z => n2 xs z⟩
theorem depth_mem : ∀ {ds : List D} {d : D}, d ∈ ds → d.depth ≤ PyData.depthAll ds
  | a :: ds, d, h => by
    simp only [PyData.depthAll]
    rcases List.mem_cons.mp h with rfl | h
    · omega
    · have := depth_mem h; omega
theorem each_of {K : PySem.W.Frag} {mg : Str → Option Value} {F : Hp} : ∀ {ds : List D} {vs : List V} {its : List Value}, Rps K mg F ds vs → Vals vs its → PySem.W.EachIs (fun u d => ∃ x, RelV x u ∧ Rp K mg F d x) its ds
  | [], vs, its, r, rv => by simp only [Rps] at r; subst r; cases rv; exact .nil
  | d :: ds, vs, its, r, rv => by
    simp only [Rps] at r
    obtain ⟨v, vr, rfl, q1, q2⟩ := r
    cases rv with
    | cons r1 r2 => exact .cons ⟨v, r1, q1⟩ (each_of q2 r2)
theorem of_each {K : PySem.W.Frag} {mg : Str → Option Value} {F : Hp} : ∀ {ds : List D} {its : List Value}, PySem.W.EachIs (fun u d => ∃ x, RelV x u ∧ Rp K mg F d x) its ds → ∃ vs, Rps K mg F ds vs ∧ Vals vs its
  | _, _, .nil => ⟨[], by simp only [Rps], .nil⟩
  | _, _, .cons h t => by
    obtain ⟨x, r, q⟩ := h
    obtain ⟨vs, r2, q2⟩ := of_each t
    exact ⟨x :: vs, by simp only [Rps]; exact ⟨x, vs, rfl, q, r2⟩, .cons r q2⟩
theorem ok_alive {P : Program} {w : World} {H : Hp} {h : Heap} {a : Addr} {o : HO} (x : ObjOk P w H h a o) : ∃ ob, h.get? a = some ob := by
  cases o with
  | lst xs => obtain ⟨_, _, _, _, e⟩ := x; exact ⟨_, e⟩
  | tup xs => obtain ⟨_, _, _, ob, e, _⟩ := x; exact ⟨_, e⟩
  | dK kvs => obtain ⟨_, _, _, _, o, _, _, e, _⟩ := x; exact ⟨_, e⟩
  | dT kvs => obtain ⟨_, _, _, _, o, _, _, e, _⟩ := x; exact ⟨_, e⟩
  | set S n => obtain ⟨o, _, _, _, e, _⟩ := x; exact ⟨_, e⟩
  | ins C dx fs => obtain ⟨_, _, _, e, _⟩ := x; exact ⟨_, e⟩
  | own y => obtain ⟨_, e⟩ := x; exact ⟨_, e⟩
  | xd fs => obtain ⟨_, ⟨_, _, _, e, _⟩, _⟩ := x; exact ⟨_, e⟩
  | rng lo hi => obtain ⟨_, _, _, e⟩ := x; exact ⟨_, e⟩
  | frz ob u => obtain ⟨e, _⟩ := x; exact ⟨_, e⟩
  | tbl ps => exact ⟨_, (show h.get? a = some _ from x)⟩
  | met f y => exact ⟨_, (show h.get? a = some _ from x)⟩
  | ext φ => obtain ⟨_, ⟨_, e⟩, _⟩ := x; exact ⟨_, e⟩
/-- a new object, at an address at which nothing stood -/
theorem laidN {pins : List (Addr × Obj)} {σ : L2.St} {H : Hp} {s : Shared} {h' : Heap} {t' : Nat} {a : Addr} {o : HO} (I : Inv X pins σ H s) (k : ∀ b u, s.heap.get? b = some u → h'.get? b = some u) (hn : s.heap.get? a = none) (new : ObjOk X.prog X.w (upd H a o) h' a o) : H a = none ∧ Inv X pins σ (upd H a o) { s with heap := h', toks := t' } := by
  have hH : H a = none := by
    cases q : H a with
    | none => rfl
    | some u => obtain ⟨ob, e⟩ := ok_alive (I.hok a u q); rw [hn] at e; cases e
  refine ⟨hH, I.un ⟨fun b u q _ _ _ => k b u q, fun b u q _ _ _ => ⟨u.slots, k b u q⟩, fun b u q n _ => ?_, fun b u q _ => ⟨u, k b u q⟩, fun b xs q => ?_, fun b u xs q => ?_, fun b ps q => ⟨#[], ?_⟩⟩ fun b u e => ?_⟩
  · rw [upd_ne (fun z => by rw [z, hn] at q; cases q)]; exact n
  · rw [upd_ne (ne_of_none q hH)]; exact q
  · rw [upd_ne (ne_of_none q hH)]; exact q
  · rw [upd_ne (ne_of_none q hH), q]; simp
  · by_cases hb : b = a
    · rw [hb, upd_same] at e; cases e; rw [hb]; exact new
    · rw [upd_ne hb] at e
      exact (I.hok b u e).stay (fun c v _ q => k c v q) (fun c q => by rw [upd_ne (ne_of_none q hH)]; exact q) fun c xs q => by rw [upd_ne (ne_of_none q hH)]; exact q
/-- sorted(r), whatever is walked -/
theorem sorted_any {pins : List (Addr × Obj)} {σ : L2.St} {H F : Hp} {s : Shared} {ds : List D} {r : Value} {E : Value → Shared → Prop} {Q : Value → Shared → Prop} (I : Inv X pins σ H s) (hu : X.A.units + 64 < cLine) (hm : sortOk ds = true) (hl : ds.length ≤ sizeLine) {its : List Value} {vs : List V} (rv : Vals vs its) (r1 : Rps X.K X.mg F ds vs) (sm : Same F H)
    (hcol : ∀ (E' : Value → Shared → Prop) (R : List Value → Shared → Prop), (∀ h' tk, (∀ b o, s.heap.get? b = some o → h'.get? b = some o) → R its { s with heap := h', toks := tk }) → wpAny (model X.prog X.w) X.A.in1 (collect r) R E' s)
    (hQ : ∀ ws p s', H p = none → Rps X.K X.mg F (sortD ds) ws → Inv X pins σ (upd H p (.lst ws)) s' → Q (.ref p) s') : wpAny (model X.prog X.w) X.A (call (.builtin "sorted") [r]) Q E s := by
  obtain ⟨p, dd, al, so⟩ := sortOk_p hm
  obtain ⟨bs, hr⟩ := Rps.reads I _ vs its p (Rps.mono sm _ _ r1) rv
  have l1 := r1.len
  have l2 := rv.length
  refine call_function_entry_kw kind_sorted plain_sorted entry_sorted (args_sorted1 _) ?_
  unfold Builtin.«sorted»
  refine wpAny_bind (m := checkCount "sorted" 1 1 _) (wpAny_pure ?_)
  refine wpAny_bind (hcol _ _ fun h' tk keep => ?_)
  refine wpAny_bind (wpAny_newList ?_ (by omega))
  have hat : (h'.push { cls := .type "list", data := .seq its.toArray }).get? h'.objs.size = some (seqObj "list" its.toArray 0) := Heap.get?_push_size _ rfl
  have hold : ∀ b o, h'.get? b = some o → (PySem.W.sortingHeap (h'.push { cls := .type "list", data := .seq its.toArray }) h'.objs.size its).get? b = some o := fun b o e => by
    have hne : b ≠ h'.objs.size := Nat.ne_of_lt (Heap.lt_size e)
    exact PySem.W.sortingHeap_old hne (Heap.get?_push_of_some _ e)
  have er := PySem.W.readsAll_each (fun b => b) (by rw [List.map_id']; exact hr)
  have er' : PySem.W.EachIs (fun v b => ∃ as, Reads (PySem.W.sortingHeap (h'.push { cls := .type "list", data := .seq its.toArray }) h'.objs.size its) v b as) its ds := er.mono fun _ _ ⟨as, r⟩ => ⟨as, PyProof.Rows.Reads.keeps (fun b o e => hold b o (keep b o e)) r⟩
  have he := each_of r1 rv
  refine wpAny_bind (wpAny_holding (wpAny_call_entry slot_list_sort ⟨_, hat, rfl⟩ entry_list_sort (PySem.W.list_sort_vals (κ := PySem.W.dataKind (PySem.W.sortingHeap (h'.push { cls := .type "list", data := .seq its.toArray }) h'.objs.size its) ds) hat
    (PySem.W.SortsAt.data (s := { s with heap := PySem.W.sortingHeap (h'.push { cls := .type "list", data := .seq its.toArray }) h'.objs.size its, toks := tk }) er' al so (fun d hd => by have := depth_mem hd; show X.A.units + 1 + 1 + d.depth < cLine; omega)) (by omega) ⟨.none, rfl, ?_⟩) (args_list_sort _)))
  have e3 := PySem.W.sortVals_data (enc := fun b => b) false he (h' := PySem.W.sortingHeap (h'.push { cls := .type "list", data := .seq its.toArray }) h'.objs.size its) er' (by rw [List.map_id']; exact al)
  rw [List.map_id'] at e3
  obtain ⟨ws, rw', vw⟩ := of_each e3
  obtain ⟨ep, hat2⟩ := PyProof.Rows.sortedHeap_at (vs := its) (out := (PySem.W.sortVals (PySem.W.dataKind (PySem.W.sortingHeap (h'.push { cls := .type "list", data := .seq its.toArray }) h'.objs.size its) ds) false its its).toArray) hat
  have hn : s.heap.get? h'.objs.size = none := by
    cases q : s.heap.get? h'.objs.size with
    | none => rfl
    | some o => exact absurd (Heap.lt_size (keep _ _ q)) (Nat.lt_irrefl _)
  have hlen : ws.length = its.length := by rw [vw.length]; exact PySem.W.sortVals_length false rfl
  obtain ⟨hH, I'⟩ := laidN (t' := tk) I (a := h'.objs.size) (o := .lst ws) (h' := PyProof.Rows.sortedHeap (h'.push { cls := .type "list", data := .seq its.toArray }) h'.objs.size its (PySem.W.sortVals (PySem.W.dataKind (PySem.W.sortingHeap (h'.push { cls := .type "list", data := .seq its.toArray }) h'.objs.size its) ds) false its its).toArray) (fun b o e => by
    have e1 := keep b o e
    have hne : b ≠ h'.objs.size := Nat.ne_of_lt (Heap.lt_size e1)
    rw [PyProof.Rows.sortedHeap_old hne (by rw [Heap.size_push]; exact Nat.lt_succ_of_lt (Heap.lt_size e1))]
    exact Heap.get?_push_of_some _ e1) hn ⟨by omega, _, ep, vw, hat2⟩
  exact wpAny_pure ⟨_, rfl, hQ ws _ _ hH rw' I'⟩
theorem call_gSorted (hcm : X.calm = true) (hu : X.A.units + 64 < cLine) : CallR X (.builtin "sorted") (rOs X.K X.mg gSorted) := by
  intro pins s σ H xs us Q I r h
  obtain ⟨F, as, d, sm, l, q, e, k⟩ := h
  unfold gSorted at e
  split at e
  · rename_i ds
    split at e
    · rename_i hm
      cases e
      obtain ⟨p, dd, al, so⟩ := sortOk_p hm
      obtain ⟨x', rfl, qx⟩ := rq1 l q
      obtain ⟨a, vs, rfl, h1, r1⟩ := qx.list
      obtain ⟨z, its, n, rv, hlen, ho⟩ := Inv.lstR I h1
      obtain ⟨bs, hr⟩ := Rps.reads I _ vs its p (Rps.mono sm _ _ r1) rv
      rw [Vals.ref1 r]
      have l1 := r1.len
      refine PySem.W.sorted_data (vs := its) (bs := ds) (enc := fun b => b) (R := fun u d => ∃ x, RelV x u ∧ Rp X.K X.mg F d x) ⟨_, ho, rfl, _, rfl⟩ (each_of r1 rv) (PySem.W.readsAll_each (fun b => b) (by rw [List.map_id']; exact hr)) (by rw [List.map_id']; exact al) (by rw [List.map_id']; exact so) (by omega) (fun b hb => by have := depth_mem hb; show X.A.units + 2 + b.depth < cLine; omega) fun out hl he => ?_
      obtain ⟨ws, rw', vw⟩ := of_each he
      obtain ⟨ep, hat⟩ := PyProof.Rows.sortedAll_at s.heap its out.toArray
      have hw : ws.length ≤ sizeLine := by rw [vw.length, hl]; omega
      exact ⟨.ref _, upd H (s.heap.objs.size + 1) (.lst ws), I.laid (t' := s.toks) (fun _ _ => PyProof.Rows.sortedAll_old) (Nat.le_succ _) ⟨hw, out, ep, vw, hat⟩, rfl, fin_own sm rw' k _ (I.hok.fresh (Nat.le_succ _))⟩
    · cases e
  · split at e
    · rename_i hm
      cases e
      obtain ⟨x, rfl, qx⟩ := rq1 l q
      obtain ⟨u, rfl, rx⟩ := L2.vals1 r
      obtain ⟨a, vs, rfl, h1, r1⟩ := qx.tuple
      cases rx
      obtain ⟨its, rv, ⟨o, ho, hc, n, hd⟩, hz⟩ := I.tuple (SqT_mono sm h1)
      have hz2 := rv.length
      exact sorted_any I hu hm (by rw [r1.len]; exact hz) rv r1 sm (fun E' R hR => wpAny_collect_seq a (.inr rfl) ho hc hd (fun h' keep => by simpa using hR h' s.toks keep) (by simp only [List.size_toArray]; omega)) fun ws p s' hp rp I' => ⟨.ref p, _, I', rfl, fin_own sm rp k p hp⟩
    · cases e
  · split at e
    · rename_i hm
      cases e
      rw [Bool.and_eq_true] at hm
      obtain ⟨x, rfl, qx⟩ := rq1 l q
      obtain ⟨u, rfl, rx⟩ := L2.vals1 r
      obtain ⟨a, ps, rfl, hs, hc2, hr, hn, hl⟩ := qx.dicS hm.1
      cases rx
      obtain ⟨o, es, ep, e1, e2, e3, e4⟩ := dic_raw I hc2
      obtain ⟨r1, _⟩ := rkv_cols hr
      obtain ⟨v1, _⟩ := ent_cols e4
      have l1 := r1.len
      have l2 := v1.length
      simp only [List.length_map, Array.length_toList] at l1 l2
      refine sorted_any I hu hm.2 (by rw [List.length_map]; omega) v1 r1 sm (fun E' R hR => PySem.W.kdu_collect (KdlSrc.rawDict hs) (I.ok.hd hcm) ⟨o, e1, e2, e3⟩ (by omega) fun h' tk acc keep it => ?_) fun ws p s' hp rp I' => ⟨.ref p, _, I', rfl, fin_own sm rp k p hp⟩
      rw [items_key it]
      exact hR h' tk keep
    · cases e
  · cases e

/-! ### isinstance -/
def isaD (T : String) (d : D) : Option Bool :=
  if d.plain then (if T = "int" then some (PySem.PyData.isInt d) else if T = "bool" then some (PySem.PyData.isBool d) else if T = "str" then some (PySem.PyData.isStr d) else if T = "tuple" then some (PySem.PyData.isTuple d) else if T = "list" then some (PySem.PyData.isList d) else if T = "dict" then some (PySem.PyData.isDict d) else none) else none
end
end TL

set_option Elab.async false
set_option linter.all false
set_option maxRecDepth 100000
namespace TL
open PySem PySem.Spec PyProof.Rows L2

/-! ### isinstance -/
section
variable [WC] {X : Cx} {S : Sx} {W : WX} {a b c e : Expr} {es : List Expr} {ma mb mc m n : DE} {ms : DA} {pos : Pos}
def rIsa (K : PySem.W.Frag) (mg : Str → Option Value) (T : String) : List V → Hp → VK → Prop := fun xs H Q => ∃ F d x b, xs = [x, .ty T] ∧ Same F H ∧ Rq K mg F H d x ∧ isaD T d = some b ∧ Q (.bl b) H
theorem call_isa {T : String} : CallR X (.builtin "isinstance") (rIsa X.K X.mg T) := by
  intro pins s σ H xs us Q I r h
  obtain ⟨F, d, x, b, rfl, sm, q, e, k⟩ := h
  unfold isaD at e
  split at e
  · rename_i p
    cases r with
    | cons rx r =>
      cases r with
      | cons ry r =>
        cases r
        obtain ⟨as, hr⟩ := rq_reads I sm q rx p
        cases (show _ = Value.type T from ry)
        have fin : ∀ tk, EP X pins σ Q (.bool b) { s with toks := tk } := fun tk => ⟨.bl b, H, I.tok _, rfl, k⟩
        split at e
        · subst T; cases e; exact PySem.W.isinstance_int_data hr fun tk _ => fin tk
        · split at e
          · subst T; cases e; exact PySem.W.isinstance_bool_data hr fun tk _ => fin tk
          · split at e
            · subst T; cases e; exact PySem.W.isinstance_str_data hr fun tk _ => fin tk
            · split at e
              · subst T; cases e; exact PySem.W.isinstance_tuple_data hr fun tk _ => fin tk
              · split at e
                · subst T; cases e; exact PySem.W.isinstance_list_data hr fun tk _ => fin tk
                · split at e
                  · subst T; cases e; exact PySem.W.isinstance_dict_data hr fun tk _ => fin tk
                  · cases e
  · cases e
def gIsa (T : String) (d : D) : Option D := (isaD T d).map PyData.bool
theorem sd_isa {p q : Pos} {x : Str} (T : String) (hg : Gl X "isinstance") (hm : X.mg "isinstance" = none) (hg2 : Gl X x) (hm2 : X.mg x = none) (hv : bootBuiltins x = some (.type T)) (ha : PE X e (tE X.K X.mg S W m)) (hn : x ≠ "__name__" := by decide) (hdb : (x == ("__debug__" : Str)) = false := by decide)
    (he : starEach (e :: [.Name x q]) X.env = (false, eval e X.env) :: starEach [.Name x q] X.env := by rfl) : PE X (.Call (.Name "isinstance" p) [e, .Name x q] [] pos) (tE X.K X.mg S W (vUn (gIsa T) m)) := by
  refine (pe_callB (call_isa (T := T)) hg hm boot_isinstance (pa_cons ha (pa_cons (pe_bltn (v := .ty T) hg2 hm2 hv rfl hn hdb) pa_nil) he) (by decide) (by decide) he (by rfl)).imp fun σ H Q ⟨F, G, P, ev, M, h⟩ => ?_
  refine ⟨F, G, P, ev, M, h.bind.imp fun r1 ev1 F1 H1 _ s1 M1 h1 v rv => ?_⟩
  obtain ⟨d, e1, h1⟩ := h1.lift
  obtain ⟨b, e2, h1⟩ := h1.lift
  obtain ⟨b', e3, rfl⟩ := Option.map_eq_some_iff.mp e2
  exact ⟨F1, d, v, b', rfl, M1.fr.fh, M1.acc rv e1, e3, h1 F1 H1 (Same.refl _) M1 _ (rp_bool (K := X.K) (mg := X.mg) (F := F1) _)⟩

/-! ### items -/
def gIx : D → D → Option D
  | .list xs, .int i => atI xs i
  | .tuple xs, .int i => atI xs i
  | .str z, .int i => if z.length ≤ sizeLine then (atI z.cps.toList i).map fun c => .str ⟨#[c]⟩ else none
  | .dict kvs, k => (keyOk kvs k).bind (dVal kvs)
  | _, _ => none
theorem atI_rps {K : PySem.W.Frag} {mg : Str → Option Value} {F : Hp} {ds : List D} {vs : List V} {i : Int} {d : D} (r : Rps K mg F ds vs) (h : atI ds i = some d) : ∃ v, atI vs i = some v ∧ Rp K mg F d v := by
  unfold atI at h ⊢
  obtain ⟨j, e1, e2⟩ := Option.bind_eq_some_iff.mp h
  obtain ⟨v, e3, q⟩ := Rps.get r e2
  exact ⟨v, by rw [← r.len, e1]; exact e3, q⟩
theorem ix_g (hu : X.A.units + 64 < cLine) (hw : X.w = WC.w) : IxR X (rV X.K X.mg gIx) := by
  intro value slice pins s σ H x y v u Q I rx ry h
  obtain ⟨F, a, b, d, sm, ra, rb, e, k⟩ := h
  unfold gIx at e
  split at e
  · obtain ⟨p, vs, rfl, h1, r1⟩ := ra.list
    obtain rfl := rb.int
    obtain ⟨w, e2, q⟩ := atI_rps r1 e
    exact ix_list value slice pins s σ H _ _ v u Q I rx ry ⟨p, vs, _, w, rfl, rfl, .inl h1, e2, k F H _ (Grow.refl _ _) q⟩
  · obtain ⟨p, vs, rfl, h1, r1⟩ := ra.tuple
    obtain rfl := rb.int
    obtain ⟨w, e2, q⟩ := atI_rps r1 e
    exact ix_tup value slice pins s σ H _ _ v u Q I rx ry ⟨p, vs, _, w, rfl, rfl, SqT_mono sm h1, e2, k F H _ (Grow.refl _ _) q⟩
  · split at e
    · obtain ⟨c, e1, rfl⟩ := Option.map_eq_some_iff.mp e
      obtain rfl := ra.str
      obtain rfl := rb.int
      exact ix_str value slice pins s σ H _ _ v u Q I rx ry ⟨_, _, c, rfl, rfl, by assumption, e1, k F H _ (Grow.refl _ _) (rp_str _)⟩
    · cases e
  · obtain ⟨nk, e1, e2⟩ := Option.bind_eq_some_iff.mp e
    obtain ⟨a', hT⟩ : ∃ a', v = .ref a' ∧ s.TypeIs (.ref a') "dict" := by
      obtain ⟨a', ps, rfl, _, hc, _⟩ := ra.dicK e1
      cases rx
      obtain ⟨o, es, ep, q1, q2, _⟩ := dic_raw I hc
      exact ⟨a', rfl, o, q1, q2.1⟩
    obtain ⟨rfl, hT⟩ := hT
    exact fun hs => tail_any hT slot_dict_getitem.lookup (dic_item I hw hu sm (ra.dicK e1) rx e1 rb ry e2 fun tk w y r1 r2 => ⟨y, H, I.tok _, r2, k F H _ (Grow.refl _ _) r1⟩) hs
  · cases e
theorem sd_ix (hu0 : X.A.units + 64 < cLine) (ha : PE X a (tE X.K X.mg S W ma)) (hb : PE X b (tE X.K X.mg S W mb)) (hs : PlainIx b := by exact fun _ _ => rfl) (hw : X.w = WC.w := by rfl) : PE X (.Subscript a b pos) (tE X.K X.mg S W (vBin gIx ma mb)) := (pe_ix (ix_g hu0 hw) ha hb hs).imp fun _ _ _ h => core_bin h

/-! ### slices -/
abbrev DP := Ev → Res (Option Int × Ev)
def pNone : DP := fun ev => .ok (none, ev)
def toInt : D → Option Int
  | .int i => some i
  | _ => none
def pSome (m : DE) : DP := fun ev => (m ev).bind fun p => (lift ((p.1.get p.2).bind toInt)).bind fun i => .ok (some i, p.2)
def tP (K : PySem.W.Frag) (mg : Str → Option Value) (S : Sx) (W : WX) (m : DP) : TO := fun σ H Q => ∃ F G P ev, Sim K mg S F G P H ev σ ∧ tM K mg S W G P σ F (m ev) fun o _ _ H' => Q o H'
theorem PO_imp {X : Cx} {e : Option Expr} {t t' : TO} (h : PO X e t) (w : ∀ σ H Q, t' σ H Q → t σ H Q) : PO X e t' := ⟨fun pins s σ H Q I q => h.run pins s σ H Q I (w _ _ _ q)⟩
theorem sp_none : PO X none (tP X.K X.mg S W pNone) := PO_imp po_none fun σ H Q ⟨F, G, P, ev, M, h⟩ => h F H (Same.refl _) M
theorem sp_some (he : PE X e (tE X.K X.mg S W m)) : PO X (some e) (tP X.K X.mg S W (pSome m)) := PO_imp (po_some he) fun σ H Q ⟨F, G, P, ev, M, h⟩ => by
  refine ⟨F, G, P, ev, M, h.bind.imp fun r1 ev1 F1 H1 _ s1 M1 h1 v rv => ?_⟩
  obtain ⟨i, e1, h1⟩ := h1.lift
  obtain ⟨d, e2, e3⟩ := Option.bind_eq_some_iff.mp e1
  cases d with
  | int j => cases e3; exact ⟨_, (M1.acc rv e2).int, h1 F1 H1 (Same.refl _) M1⟩
  | _ => cases e3
def cutL {α : Type} (xs : List α) (lo hi : Option Int) : List α := (xs.drop (HT.sIx xs.length 0 lo)).take (HT.sIx xs.length xs.length hi - HT.sIx xs.length 0 lo)
def gSl (lo hi : Option Int) : D → Option D
  | .tuple xs => some (.tuple (cutL xs lo hi))
  | .str z => if z.length ≤ sizeLine then some (.str (cutS z lo hi)) else none
  | .list xs => some (.list (cutL xs lo hi))
  | _ => none
def gSlL (lo hi : Option Int) : D → Option D
  | .list xs => some (.list (cutL xs lo hi))
  | _ => none
def vSl (m : DE) (l u : DP) : DE := fun ev => (m ev).bind fun p => (l p.2).bind fun q => (u q.2).bind fun r => (lift (p.1.get r.2)).bind fun a => (lift (gSl q.1 r.1 a)).bind fun d => .ok (.val d, r.2)
def oSl (m : DE) (l u : DP) : DO := fun ev => (m ev).bind fun p => (l p.2).bind fun q => (u q.2).bind fun r => (lift (p.1.get r.2)).bind fun a => (lift (gSlL q.1 r.1 a)).bind fun d => .ok (d, r.2)
theorem cut_rps {K : PySem.W.Frag} {mg : Str → Option Value} {F : Hp} {ds : List D} {vs : List V} (r : Rps K mg F ds vs) (lo hi : Option Int) : Rps K mg F (cutL ds lo hi) (cutV vs lo hi) := by
  unfold cutL cutV
  rw [r.len]
  exact (r.drop _).take _
def rSl (K : PySem.W.Frag) (mg : Str → Option Value) : V → Option Int → Option Int → Hp → VK → Prop := fun x lo hi H Q => ∃ F a d, Same F H ∧ Rq K mg F H a x ∧ gSl lo hi a = some d ∧ ∀ F' H' v, Grow F H F' H' → Rp K mg F' d v → Q v H'
def rSlO (K : PySem.W.Frag) (mg : Str → Option Value) : V → Option Int → Option Int → Hp → VK → Prop := fun x lo hi H Q => ∃ F a d, Same F H ∧ Rq K mg F H a x ∧ gSlL lo hi a = some d ∧ ∀ F' H' p, Grow F H F' H' → H p = none → F' p = none → OwnD K mg F' H' d p → Q (.ref p) H'
theorem sl_g : SlR X (rSl X.K X.mg) := by
  intro pins s σ H x v vl vu lo hi sl Q I rx hs pl pu h
  obtain ⟨F, a, d, sm, ra, e, k⟩ := h
  unfold gSl at e
  split at e
  · cases e
    obtain ⟨p, vs, rfl, h1, r1⟩ := ra.tuple
    refine sl_tupA pins s σ H _ v vl vu lo hi sl Q I rx hs pl pu ⟨p, vs, rfl, SqT_mono sm h1, fun w => ?_, fun _ => fin_tup sm (cut_rps r1 lo hi) k⟩
    refine k F H _ (Grow.refl _ _) ?_
    have hc := cut_rps r1 lo hi
    have e2 : cutV vs lo hi = vs := by
      unfold cutV
      rw [w.1, w.2]
      simp
    rw [e2] at hc
    simp only [Rp]
    exact ⟨p, vs, rfl, h1, hc⟩
  · split at e
    · cases e
      obtain rfl := ra.str
      exact sl_str pins s σ H _ v vl vu lo hi sl Q I rx hs pl pu ⟨_, rfl, by assumption, k F H _ (Grow.refl _ _) (rp_str _)⟩
    · cases e
  · cases e
    obtain ⟨p, vs, rfl, h1, r1⟩ := ra.list
    exact sl_list pins s σ H _ v vl vu lo hi sl Q I rx hs pl pu ⟨p, vs, rfl, .inl h1, fin_lst sm (cut_rps r1 lo hi) k⟩
  · cases e
theorem sl_gO : SlR X (rSlO X.K X.mg) := by
  intro pins s σ H x v vl vu lo hi sl Q I rx hs pl pu h
  obtain ⟨F, a, d, sm, ra, e, k⟩ := h
  unfold gSlL at e
  split at e
  · cases e
    obtain ⟨p, vs, rfl, h1, r1⟩ := ra.list
    exact sl_list pins s σ H _ v vl vu lo hi sl Q I rx hs pl pu ⟨p, vs, rfl, .inl h1, fin_own sm (cut_rps r1 lo hi) k⟩
  · cases e
variable {lo hi : Option Expr} {ml mh : DP} {p2 : Pos}
theorem sd_sl (he : PE X e (tE X.K X.mg S W m)) (hl : PO X lo (tP X.K X.mg S W ml)) (hu : PO X hi (tP X.K X.mg S W mh)) : PE X (.Subscript e (.Slice lo hi none p2) pos) (tE X.K X.mg S W (vSl m ml mh)) := (pe_slice sl_g he hl hu).imp fun σ H Q ⟨F, G, P, ev, M, h⟩ => by
  refine ⟨F, G, P, ev, M, h.bind.imp fun r1 ev1 F1 H1 _ s1 M1 h1 v rv => ⟨F1, G, P, ev1, M1, h1.bind.imp fun l ev2 F2 H2 _ s2 M2 h2 => ⟨F2, G, P, ev2, M2, h2.bind.imp fun u ev3 F3 H3 _ s3 M3 h3 => ?_⟩⟩⟩
  obtain ⟨x, e1, h3⟩ := h3.lift
  obtain ⟨d, e2, h3⟩ := h3.lift
  exact ⟨F3, x, d, M3.fr.fh, M3.acc (rv.mono (s2.trans s3)) e1, e2, fun F' H' v' g r => h3 F' H' g.f (M3.grow g) v' r⟩
theorem so_sl (he : PE X e (tE X.K X.mg S W m)) (hl : PO X lo (tP X.K X.mg S W ml)) (hu : PO X hi (tP X.K X.mg S W mh)) : PE X (.Subscript e (.Slice lo hi none p2) pos) (tO X.K X.mg S W (oSl m ml mh)) := (pe_slice sl_gO he hl hu).imp fun σ H Q ⟨F, G, P, ev, M, h⟩ => by
  refine ⟨F, G, P, ev, M, h.bind.imp fun r1 ev1 F1 H1 _ s1 M1 h1 v rv => ⟨F1, G, P, ev1, M1, h1.bind.imp fun l ev2 F2 H2 _ s2 M2 h2 => ⟨F2, G, P, ev2, M2, h2.bind.imp fun u ev3 F3 H3 _ s3 M3 h3 => ?_⟩⟩⟩
  obtain ⟨x, e1, h3⟩ := h3.lift
  obtain ⟨d, e2, h3⟩ := h3.lift
  exact ⟨F3, x, d, M3.fr.fh, M3.acc (rv.mono (s2.trans s3)) e1, e2, fun F' H' p g hp hF o => h3 F' H' g.f (M3.grow g) p o ⟨hF, (FreshAt.of M3 hp).2⟩⟩

/-! ### [::-1] -/
theorem places_rev (n : Nat) : Builtin.Slice.slicePlaces ((n : Int) - 1) (-1) (-1) = n := by
  unfold Builtin.Slice.slicePlaces
  have h1 : ¬ ((-1 : Int) > 0) := by omega
  simp only [h1, if_false, Int.neg_neg, Int.ediv_one]
  split <;> omega
theorem sliceApplied_rev {prog : Program} {w : World} {A : Around} {E : Value → Shared → Prop} {s : Shared} {sl : Addr} {t : Tok} {n : Nat} {Q : Int × Int × Nat → Shared → Prop} (hs : s.heap.IsSliceOf sl .none .none (.int (-1) t)) (h : Q ((n : Int) - 1, -1, n) s) : wpAny (model prog w) A (Builtin.Slice.sliceApplied (.ref sl) (pure (n : Int))) Q E s := by
  obtain ⟨os, hos, hcs, hds⟩ := id hs
  unfold Builtin.Slice.sliceApplied Builtin.Slice.sliceFields
  refine wpAny_bind (wpAny_bind (wpAny_field hos hds (x := .none) rfl (wpAny_bind (wpAny_field hos hds (x := .none) rfl (wpAny_bind (wpAny_field hos hds (x := .int (-1) t) rfl (wpAny_pure ?_)))))))
  refine wpAny_bind (slicePart_int ?_)
  show wpAny _ _ (if ((-1 : Int) == 0) = true then _ else _) _ _ s
  rw [if_neg (by decide)]
  refine wpAny_bind (slicePart_none (wpAny_bind (slicePart_none (wpAny_bind (wpAny_pure ?_)))))
  have e : Builtin.Slice.sliceAdjust none none (-1) (n : Int) = ((n : Int) - 1, -1) := by
    unfold Builtin.Slice.sliceAdjust
    have h1 : ((-1 : Int) < 0) := by omega
    simp only [h1, if_true]
  show wpAny _ _ (match Builtin.Slice.sliceAdjust none none (-1) (n : Int) with | (lo, hi) => pure (lo, (-1 : Int), Builtin.Slice.slicePlaces lo hi (-1))) _ _ s
  rw [e]
  show wpAny _ _ (pure ((n : Int) - 1, (-1 : Int), Builtin.Slice.slicePlaces ((n : Int) - 1) (-1) (-1))) _ _ s
  rw [places_rev]
  exact wpAny_pure h
theorem pick_rev (xs : List Value) : ((List.range xs.length).filterMap fun (m : Nat) => xs.toArray[(((xs.length : Nat) : Int) - 1 + (m : Int) * -1).toNat]?) = xs.reverse := by
  have hh : ∀ (m : Nat), m < xs.length → xs.toArray[(((xs.length : Nat) : Int) - 1 + (m : Int) * -1).toNat]? = xs.reverse[m]? := fun m hm => by
    have : (((xs.length : Nat) : Int) - 1 + (m : Int) * -1).toNat = xs.length - 1 - m := by omega
    rw [this, List.getElem?_toArray, List.getElem?_reverse hm]
  have e1 : ((List.range xs.length).filterMap fun (m : Nat) => xs.toArray[(((xs.length : Nat) : Int) - 1 + (m : Int) * -1).toNat]?) = (List.range xs.reverse.length).filterMap fun m => xs.reverse[m]? := by
    rw [List.length_reverse]
    have gen : ∀ (l : List Nat), (∀ m ∈ l, m < xs.length) → (l.filterMap fun (m : Nat) => xs.toArray[(((xs.length : Nat) : Int) - 1 + (m : Int) * -1).toNat]?) = l.filterMap fun m => xs.reverse[m]? := by
      intro l
      induction l with
      | nil => intro _; rfl
      | cons a l ih =>
        intro hl
        rw [List.filterMap_cons, List.filterMap_cons, hh a (hl a List.mem_cons_self), ih fun m hm => hl m (List.mem_cons_of_mem _ hm)]
    exact gen _ fun m hm => List.mem_range.mp hm
  rw [e1]
  generalize xs.reverse = ys
  clear e1 hh
  have key : ∀ (ys : List Value), (List.range ys.length).filterMap (fun m => ys[m]?) = ys := by
    intro ys
    induction ys with
    | nil => rfl
    | cons y ys ih =>
      rw [List.length_cons, List.range_succ_eq_map, List.filterMap_cons]
      simp only [List.getElem?_cons_zero, List.filterMap_map]
      congr 1
  exact key ys
theorem getItem_tuple_rev {prog : Program} {w : World} {A : Around} {E : Value → Shared → Prop} {s : Shared} {t sl : Addr} {items : List Value} {tk : Tok} {Q : Value → Shared → Prop} (ht : IsTup s.heap t items.toArray) (hs : s.heap.IsSliceOf sl .none .none (.int (-1) tk))
    (h : Q (.ref s.heap.objs.size) { s with heap := s.heap.push { cls := .type "tuple", data := .seq items.reverse.toArray } })
    (hsz : items.length ≤ sizeLine) : wpAny (model prog w) A (getItem (.ref t) (.ref sl)) Q E s := by
  have htake : sizeOk (.seq items.reverse.toArray) := by
    show items.reverse.toArray.size ≤ sizeLine
    rw [List.size_toArray, List.length_reverse]
    exact hsz
  obtain ⟨os, hos, hcs, hds⟩ := id hs
  have hTs : s.TypeIs (.ref sl) "slice" := ⟨os, hos, hcs⟩
  unfold getItem
  try with_reducible refine wpAny_holding ?_
  first | refine wpAny_bind (wpAny_pure ?_) | skip
  refine wpAny_bind (wpAny_sequenceKey ht.typeIs (by decide) ?_)
  refine wpAny_bind (wpAny_callSpecial?_slot (name := Str.ofString "__getitem__") ht.typeIs PyProof.Rows.slot_tuple_getitem
    (wpAny_call_entry PyProof.Rows.slot_tuple_getitem ht.typeIs entry_tuple_getitem ?_ (args_tuple_getitem _ _)))
  show wpAny _ _ (Builtin.Tuple.tupleItemsOf (.ref t) >>= _) _ _ s
  refine wpAny_bind (tupleItemsOf_ ht ?_)
  refine wpAny_bind (wpAny_typeOf hTs ?_)
  rw [if_pos (by decide)]
  have hn : ((items.toArray.size : Nat) : Int) = ((items.length : Nat) : Int) := by simp
  rw [hn]
  refine wpAny_bind (sliceApplied_rev hs ?_)
  show wpAny _ _ (if ((((items.length : Nat) : Int) - 1) == 0 && (-1 : Int) == 1 && items.length == items.toArray.size) = true then _ else _) _ _ s
  rw [if_neg (by simp)]
  rw [pick_rev]
  first
    | exact wpAny_bind (m := Builtin.Tuple.tupleExact _) (wpAny_newObj_type (wpAny_pure ⟨_, rfl, wpAny_pure h⟩) htake)
    | exact wpAny_bind (m := Builtin.Tuple.tupleExact _) (wpAny_newObj_type (wpAny_bind (wpAny_pure (wpAny_pure ⟨_, rfl, wpAny_pure h⟩))) htake)
    | exact wpAny_bind (wpAny_bind (m := Builtin.Tuple.tupleExact _) (wpAny_newObj_type (wpAny_pure (wpAny_pure ⟨_, rfl, wpAny_pure h⟩)) htake))
    | exact wpAny_bind (wpAny_bind (m := Builtin.Tuple.tupleExact _) (wpAny_newObj_type (wpAny_pure ⟨_, rfl, wpAny_pure h⟩) htake))
end
end TL

set_option Elab.async false
set_option linter.all false
set_option maxRecDepth 100000
namespace TL
open PySem PySem.Spec PyProof.Rows L2

/-! ### [::-1] as an expression -/
def gRev : D → Option D
  | .tuple xs => some (.tuple xs.reverse)
  | .list xs => some (.list xs.reverse)
  | _ => none
section
variable [WC] {X : Cx} {S : Sx} {W : WX} {e : Expr} {m : DE} {pos : Pos}
theorem sd_rev {k : Nat} {p1 p2 p3 : Pos} (he : PE X e (tE X.K X.mg S W m)) : PE X (.Subscript e (.Slice none none (some (.UnaryOp .USub (.Constant (.int 1) k p1) p2)) p3) pos) (tE X.K X.mg S W (vUn gRev m)) := by
  refine ⟨fun pins s σ H Q I h => ?_⟩
  obtain ⟨F, G, P, ev, M, h⟩ := h
  refine Subscript_ (thn (he.run pins s σ H (fun v H1 => ∃ F1 d, Same F1 H1 ∧ (∃ a, Rq X.K X.mg F1 H1 a v ∧ gRev a = some d) ∧ ∀ F' H' v', Grow F1 H1 F' H' → Rp X.K X.mg F' d v' → Q v' H') I ⟨F, G, P, ev, M, h.bind.imp fun r1 ev1 F1 H1 _ s1 M1 h1 v rv => ?_⟩) fun v s1 ⟨x, H1, I1, r1, F1, d, sm, ⟨a, ra, e1⟩, k1⟩ => ?_)
  · obtain ⟨x, e1, h1⟩ := h1.lift
    obtain ⟨d, e2, h1⟩ := h1.lift
    exact ⟨F1, d, M1.fr.fh, ⟨x, M1.acc rv e1, e2⟩, fun F' H' v' g r => h1 F' H' g.f (M1.grow g) v' r⟩
  have hst : PO X (some (.UnaryOp .USub (.Constant (.int 1) k p1) p2)) (tPart (tUn (rU fun i => .int (-i)) (tC (.int 1)))) := po_some (pe_un un_neg pe_int)
  refine wpAny_Slice (thn (po_none.run pins s1 σ H1 (fun o H2 => o = none ∧ H2 = H1) I1 ⟨rfl, rfl⟩) fun vl s2 ⟨l, H2, I2, pl, el, e2⟩ => ?_)
  subst el e2
  refine thn (po_none.run pins s2 σ H2 (fun o H3 => o = none ∧ H3 = H2) I2 ⟨rfl, rfl⟩) fun vu s3 ⟨u, H3, I3, pu, eu, e3⟩ => ?_
  subst eu e3
  refine thn (hst.run pins s3 σ H3 (fun o H4 => o = some (-1) ∧ H4 = H3) I3 ⟨1, rfl, -1, rfl, rfl, rfl⟩) fun vs s4 ⟨o, H4, I4, ps, eo, e4⟩ => ?_
  subst eo e4
  have I5 : Inv X pins σ H4 { s4 with heap := s4.heap.push { cls := .type "slice", data := .fields #[vl, vu, vs] } } := I4.kept (t' := s4.toks) fun b ob q => Heap.get?_push_of_some _ q
  have hs : (s4.heap.push { cls := .type "slice", data := .fields #[vl, vu, vs] }).IsSliceOf s4.heap.objs.size vl vu vs := Heap.IsSliceOf.new _ vl vu vs
  unfold gRev at e1
  split at e1
  · cases e1
    obtain ⟨p, ws, rfl, h1, q1⟩ := ra.tuple
    cases r1
    obtain ⟨its, r, ht, hz⟩ := I5.tuple (SqT_mono sm h1)
    have hlen := r.length
    cases pl
    cases pu
    obtain ⟨tk, rfl⟩ : ∃ t, vs = .int (-1) t := by cases ps; exact ⟨_, rfl⟩
    show wpAny (model X.prog X.w) X.A (subscriptTail e (.Slice none none (some (.UnaryOp .USub (.Constant (.int 1) k p1) p2)) p3) (.ref p) (.ref s4.heap.objs.size)) (EP X pins σ Q) X.xe _
    refine tail_any (ops := [.ref p, .ref s4.heap.objs.size]) ht.typeIs (PyProof.Rows.slot_tuple_getitem.lookup) ?_ (by with_unfolding_all rfl)
    refine getItem_tuple_rev ht hs ?_ (by omega)
    refine ⟨.ref _, upd H4 _ (.tup ws.reverse), I5.laid (t' := s4.toks) (o := .tup ws.reverse) (fun b ob q => Heap.get?_push_of_some _ q) (Nat.le_refl _) ?_, rfl, ?_⟩
    · exact ⟨by rw [List.length_reverse]; exact hz, _, r.reverse, ⟨_, Heap.get?_push_size _ rfl, rfl, _, rfl⟩⟩
    · exact fin_tup sm q1.reverse k1 _ (I5.hok.fresh (Nat.le_refl _))
  · cases e1
    obtain ⟨p, ws, rfl, h1, q1⟩ := ra.list
    cases r1
    obtain ⟨z, its, n, r, _, ho⟩ := Inv.lstR I5 h1
    have hlen := r.length
    have il : (s4.heap.push { cls := .type "slice", data := .fields #[vl, vu, vs] }).IsList p its.toArray := ⟨_, ho, rfl, _, rfl⟩
    show wpAny (model X.prog X.w) X.A (subscriptTail e (.Slice none none (some (.UnaryOp .USub (.Constant (.int 1) k p1) p2)) p3) (.ref p) (.ref s4.heap.objs.size)) (EP X pins σ Q) X.xe _
    refine tail_any (ops := [.ref p, .ref s4.heap.objs.size]) il.typeIs (PySem.slot_list_getitem.lookup) ?_ (by with_unfolding_all rfl)
    refine wpAny_getItem_list_slice il hs pl pu ps (by decide) ?_ (by rw [List.size_toArray]; omega)
    rw [PySem.W.krv_pick]
    refine ⟨.ref _, upd H4 _ (.lst ws.reverse), I5.laid (t' := s4.toks) (o := .lst ws.reverse) (fun b ob q => Heap.get?_push_of_some _ q) (Nat.le_refl _) ?_, rfl, ?_⟩
    · exact ⟨by rw [List.length_reverse]; exact z, _, 0, r.reverse, Heap.get?_push_size _ rfl⟩
    · exact fin_lst sm q1.reverse k1 _ (I5.hok.fresh (Nat.le_refl _))
  · cases e1
end

/-! ### statements -/
inductive Fl where
  | nx | rt (d : D) | rto (d : D) | bk | ct
abbrev DS := Ev → Res (Fl × Ev)
def tN {α : Type} [WC] (K : PySem.W.Frag) (mg : Str → Option Value) (S : Sx) (W : WX) (G : Hp) (P : Nat → Option Addr) (F : Hp) (r : Res (α × Ev)) (post : α → Ev → Hp → Hp → L2.St → Prop) : Prop := match r with
  | .ok (a, ev') => ∀ F' H' σ', Same F F' → Sim K mg S F' G P H' ev' σ' → post a ev' F' H' σ'
  | .err c => ∀ F' H' σ', Same F F' → Frm S.T F' G H' → ∀ f, mg c = some (.ref f) → W (.ref f) none σ' H'
  | .stuck => False
def postS [WC] (K : PySem.W.Frag) (mg : Str → Option Value) (S : Sx) (G : Hp) (Dn : Ends) (fl : Fl) (ev' : Ev) (F' H' : Hp) (σ' : L2.St) : Prop := match fl with
  | .nx => Dn.nx σ' H'
  | .rt d => ∀ v, Rp K mg F' d v → Dn.rt v H'
  | .rto d => ∀ a, OwnD K mg F' H' d a → FreshAt S ev' σ' F' G a → Dn.rt (.ref a) H'
  | .bk => Dn.bk σ' H'
  | .ct => Dn.ct σ' H'
def tS [WC] (K : PySem.W.Frag) (mg : Str → Option Value) (S : Sx) (W : WX) (m : DS) : TS := fun Dn σ H => ∃ F G P ev, Sim K mg S F G P H ev σ ∧ tN K mg S W G P F (m ev) (postS K mg S G Dn)
section
variable [WC] {α β : Type} {K : PySem.W.Frag} {mg : Str → Option Value} {S : Sx} {W : WX} {F F' G H H' : Hp} {P : Nat → Option Addr} {ev ev' : Ev} {σ : L2.St}
theorem tN.mono {r : Res (α × Ev)} {post : α → Ev → Hp → Hp → L2.St → Prop} (s : Same F F') (h : tN K mg S W G P F r post) : tN K mg S W G P F' r post := by
  cases r with
  | ok p => exact fun F2 H2 σ2 s2 M => h F2 H2 σ2 (s.trans s2) M
  | err c => exact fun F2 H2 σ2 s2 M => h F2 H2 σ2 (s.trans s2) M
  | stuck => exact h
theorem tN.bind {r : Res (α × Ev)} {k : α × Ev → Res (β × Ev)} {post : β → Ev → Hp → Hp → L2.St → Prop} (h : tN K mg S W G P F (r.bind k) post) :
    tM K mg S W G P σ F r (fun a ev1 F1 H1 => tN K mg S W G P F1 (k (a, ev1)) post) := by
  cases r with
  | ok p => exact fun F1 H1 s1 M1 => tN.mono s1 (r := k p) h
  | err c => exact fun F1 H1 s1 f => h F1 H1 σ s1 f
  | stuck => exact h
theorem tN.lift {o : Option α} {k : α → Res (β × Ev)} {post : β → Ev → Hp → Hp → L2.St → Prop} (h : tN K mg S W G P F ((lift o).bind k) post) : ∃ a, o = some a ∧ tN K mg S W G P F (k a) post := by
  cases o with
  | none => exact False.elim h
  | some a => exact ⟨a, rfl, h⟩
theorem tN.cond {c : Prop} [Decidable c] {r : Res (β × Ev)} {post : β → Ev → Hp → Hp → L2.St → Prop} (h : tN K mg S W G P F (if c then r else .stuck) post) : c ∧ tN K mg S W G P F r post := by
  by_cases hc : c
  · rw [if_pos hc] at h; exact ⟨hc, h⟩
  · rw [if_neg hc] at h; exact False.elim h
theorem tN.val {rv : RV} {v : V} {k : D × Ev → Res (β × Ev)} {post : β → Ev → Hp → Hp → L2.St → Prop} (M : Sim K mg S F G P H ev σ) (r : RRv K mg S F σ rv v) (h : tN K mg S W G P F ((toVal rv ev).bind k) post) : ∃ d ev' F', toVal rv ev = .ok (d, ev') ∧ Same F F' ∧ Sim K mg S F' G P H ev' σ ∧ Rp K mg F' d v ∧ tN K mg S W G P F' (k (d, ev')) post := by
  cases q : toVal rv ev with
  | ok p =>
    rw [q] at h
    obtain ⟨F', s, M', r'⟩ := toVal_ok M r q
    exact ⟨p.1, p.2, F', rfl, s, M', r', tN.mono s h⟩
  | err c => exact absurd q toVal_ne_err
  | stuck => rw [q] at h; exact False.elim h
omit [WC] in
/-- a name of a value is set -/
theorem set_get {β : Type} {l : List β} {i j : Nat} {x y : β} (h : (l.set i x)[j]? = some y) : (j = i ∧ y = x) ∨ (j ≠ i ∧ l[j]? = some y) := by
  by_cases hj : j = i
  · subst hj
    rw [List.getElem?_set] at h
    simp at h
    exact .inl ⟨rfl, h.2.symm⟩
  · rw [List.getElem?_set_ne (Ne.symm hj)] at h; exact .inr ⟨hj, h⟩
omit [WC] in
theorem set_same {β : Type} {l : List β} {i : Nat} {x : β} (h : i < l.length) : (l.set i x)[i]? = some x := by
  rw [List.getElem?_set]; simp [h]
omit [WC] in
theorem set_lt {β : Type} {l : List β} {i : Nat} {x y : β} (h : (l.set i x)[i]? = some y) : i < l.length := by
  have := (List.getElem?_eq_some_iff.mp h).1
  rwa [List.length_set] at this
theorem Sim.setv (M : Sim K mg S F G P H ev σ) {i : Nat} {d : D} {v : V} (h1 : S.own i = false) (h2 : S.io i = false) (r : Rp K mg F d v) : Sim K mg S F G P H (ev.set i (some d)) (σ.set i (some v)) where
  fr := M.fr
  len := by rw [List.length_set, List.length_set]; exact M.len
  sl := fun j d' h e => by
    rcases set_get e with ⟨rfl, e'⟩ | ⟨hj, e'⟩
    · cases e'
      exact ⟨v, set_same (by rw [← M.len]; exact set_lt e), r⟩
    · rw [List.getElem?_set_ne (Ne.symm hj)]; exact M.sl j d' h e'
  so := fun j d' h e => by
    rcases set_get e with ⟨rfl, e'⟩ | ⟨hj, e'⟩
    · rw [h1] at h; cases h
    · rw [List.getElem?_set_ne (Ne.symm hj)]; exact M.so j d' h e'
  sp := fun j k d' e' a hj hk hn q1 q2 q3 q4 => by
    have n1 : j ≠ i := fun z => by rw [z, h1] at hj; cases hj
    have n2 : k ≠ i := fun z => by rw [z, h1] at hk; cases hk
    rw [List.getElem?_set_ne (Ne.symm n1)] at q1 q3
    rw [List.getElem?_set_ne (Ne.symm n2)] at q2 q4
    exact M.sp j k d' e' a hj hk hn q1 q2 q3 q4
  pn := fun j a e => by
    obtain ⟨q1, q2⟩ := M.pn j a e
    have n1 : j ≠ i := fun z => by rw [z, h2] at q1; cases q1
    rw [List.getElem?_set_ne (Ne.symm n1)]
    exact ⟨q1, q2⟩
/-- a name of a fresh object is set -/
theorem Sim.seto (M : Sim K mg S F G P H ev σ) {i : Nat} {d : D} {a : Addr} (h1 : S.own i = true) (h2 : S.io i = false) (o : OwnD K mg F H d a) (f : FreshAt S ev σ F G a) : Sim K mg S F G P H (ev.set i (some d)) (σ.set i (some (.ref a))) where
  fr := M.fr
  len := by rw [List.length_set, List.length_set]; exact M.len
  sl := fun j d' h e => by
    rcases set_get e with ⟨rfl, e'⟩ | ⟨hj, e'⟩
    · rw [h1] at h; cases h
    · rw [List.getElem?_set_ne (Ne.symm hj)]; exact M.sl j d' h e'
  so := fun j d' h e => by
    rcases set_get e with ⟨rfl, e'⟩ | ⟨hj, e'⟩
    · cases e'
      exact ⟨a, set_same (by rw [← M.len]; exact set_lt e), o, f.1, f.2.1⟩
    · rw [List.getElem?_set_ne (Ne.symm hj)]; exact M.so j d' h e'
  sp := fun j k d' e' b hj hk hn q1 q2 q3 q4 => by
    rcases set_get q1 with ⟨rfl, e1⟩ | ⟨nj, e1⟩
    · rcases set_get q2 with ⟨rfl, e2⟩ | ⟨nk, e2⟩
      · exact hn rfl
      · rw [List.getElem?_set_ne (Ne.symm nk)] at q4
        rcases set_get q3 with ⟨_, e3⟩ | ⟨n3, _⟩
        · cases e3; exact f.2.2 k _ hk e2 q4
        · exact n3 rfl
    · rw [List.getElem?_set_ne (Ne.symm nj)] at q3
      rcases set_get q2 with ⟨rfl, e2⟩ | ⟨nk, e2⟩
      · rcases set_get q4 with ⟨_, e3⟩ | ⟨n3, _⟩
        · cases e3; exact f.2.2 j _ hj e1 q3
        · exact n3 rfl
      · rw [List.getElem?_set_ne (Ne.symm nk)] at q4
        exact M.sp j k d' e' b hj hk hn e1 e2 q3 q4
  pn := fun j b e => by
    obtain ⟨q1, q2⟩ := M.pn j b e
    have n1 : j ≠ i := fun z => by rw [z, h2] at q1; cases q1
    rw [List.getElem?_set_ne (Ne.symm n1)]
    exact ⟨q1, q2⟩
theorem dic_ne_code {a : Addr} {ps : List E3} {q : Str} : dicO a ps ≠ LamX.CodeO a q := fun z => by
  unfold dicO LamX.CodeO at z
  have z := HO.ext.inj z
  let ob : Obj := { cls := .none, data := .fields #[.none, .str q 0] }
  let h : Heap := { objs := (Array.replicate a ob).push ob }
  have hg : h.get? a = some ob := by
    have e : h.objs[a]? = some ob := by
      show ((Array.replicate a ob).push ob)[a]? = some ob
      have := Array.getElem?_push_size (xs := Array.replicate a ob) (x := ob)
      rwa [Array.size_replicate] at this
    unfold Heap.get?
    rw [e]
  have hc : ∃ (oc : Obj) (vs : Array Value) (t : Tok), h.get? a = some oc ∧ oc.data = .fields vs ∧ vs[1]? = some (.str q t) := ⟨ob, _, 0, hg, rfl, rfl⟩
  have hd := (congrFun z h).mpr hc
  obtain ⟨o, es, ep, e1, e2, e3, _⟩ := hd
  rw [hg] at e1
  cases e1
  cases e3
/-- an own object is written -/
theorem Tabs_write {T : List (Addr × Str)} {a : Addr} {o o1 : HO} (t : LamX.Tabs T H) (h : H a = some o1) (w : OwnO a o1) : LamX.Tabs T (upd H a o) := fun p hp => by
  obtain ⟨ps, e1, e2, e3⟩ := t p hp
  refine ⟨ps, by rw [upd_ne (fun z => by rw [z, h] at e1; cases e1; rcases w with ⟨_, w⟩ | ⟨_, w⟩ <;> cases w)]; exact e1, e2, fun pos cv hc => ?_⟩
  obtain ⟨c, q1, q2⟩ := e3 pos cv hc
  have hne : c ≠ a := fun z => by
    rw [z, h] at q2
    cases q2
    rcases w with ⟨_, w⟩ | ⟨_, w⟩
    · unfold LamX.CodeO at w; cases w
    · exact dic_ne_code w.symm
  exact ⟨c, q1, by rw [upd_ne hne]; exact q2⟩
theorem Sim.writeO (M : Sim K mg S F G P H ev σ) {i : Nat} {a : Addr} {d d' : D} {o' : HO} (ho : S.own i = true) (e : ev[i]? = some (some d)) (hs : σ[i]? = some (some (.ref a))) (w : OwnD K mg F (upd H a o') d' a) : Sim K mg S F G P (upd H a o') (ev.set i (some d')) σ := by
  obtain ⟨b, e1, o, f0, g0⟩ := M.so i _ ho e
  rw [hs] at e1
  cases e1
  refine ⟨⟨fun b u e => ?_, fun b u e => ?_, M.fr.gf, M.fr.nt, M.fr.gt, (let ⟨_, w1, w2⟩ := o.obj; Tabs_write M.fr.tb w1 w2)⟩, by rw [List.length_set]; exact M.len, fun j d h e2 => ?_, fun j d h e2 => ?_, fun j k d e' b hj hk hn q1 q2 q3 q4 => ?_, M.pn⟩
  · rw [upd_ne (fun z => by rw [z, f0] at e; cases e)]; exact M.fr.fh _ _ e
  · rw [upd_ne (fun z => by rw [z, g0] at e; cases e)]; exact M.fr.gh _ _ e
  · rcases set_get e2 with ⟨rfl, _⟩ | ⟨_, e3⟩
    · rw [ho] at h; cases h
    · exact M.sl j d h e3
  · rcases set_get e2 with ⟨rfl, e3⟩ | ⟨nj, e3⟩
    · cases e3; exact ⟨a, hs, w, f0, g0⟩
    · obtain ⟨c, x1, x2, x3, x4⟩ := M.so j d h e3
      have hne : c ≠ a := fun z => M.sp j i _ _ c h ho nj e3 e x1 (by rw [z]; exact hs)
      refine ⟨c, x1, ?_, x3, x4⟩
      cases d with
      | list ds => obtain ⟨ws, y1, y2⟩ := x2; exact ⟨ws, by rw [upd_ne hne]; exact y1, y2⟩
      | dict ds => obtain ⟨ws, y1, y2⟩ := x2; exact ⟨ws, by rw [upd_ne hne]; exact y1, y2⟩
      | _ => exact False.elim x2
  · have f : ∀ {j : Nat} {d : D}, (ev.set i (some d'))[j]? = some (some d) → ∃ d', ev[j]? = some (some d') := fun {j d} e0 => by
      rcases set_get e0 with ⟨rfl, _⟩ | ⟨_, e3⟩
      · exact ⟨_, e⟩
      · exact ⟨_, e3⟩
    obtain ⟨d1, z1⟩ := f q1
    obtain ⟨d2, z2⟩ := f q2
    exact M.sp j k d1 d2 b hj hk hn z1 z2 q3 q4
theorem Sim.write (M : Sim K mg S F G P H ev σ) {i : Nat} {a : Addr} {ds ds' : List D} {vs' : List V} (ho : S.own i = true) (e : ev[i]? = some (some (.list ds))) (hs : σ[i]? = some (some (.ref a))) (r : Rps K mg F ds' vs') : Sim K mg S F G P (upd H a (.lst vs')) (ev.set i (some (.list ds'))) σ :=
  M.writeO ho e hs ⟨vs', upd_same, r⟩
end
end TL

set_option Elab.async false
set_option linter.all false
set_option maxRecDepth 100000
namespace TL
open PySem PySem.Spec PyProof.Rows L2

def sNext : DS := fun ev => .ok (.nx, ev)
def sSeq (m1 m2 : DS) : DS := fun ev => (m1 ev).bind fun p => match p.1 with
  | .nx => m2 p.2
  | f => .ok (f, p.2)
def sIf (t : DT) (m1 m2 : DS) : DS := fun ev => (t ev).bind fun p => bif p.1 then m1 p.2 else m2 p.2
def sSet (i : Nat) (m : DE) : DS := fun ev => (m ev).bind fun p => (toVal p.1 p.2).bind fun q => .ok (.nx, q.2.set i (some q.1))
def sSetO (i : Nat) (m : DO) : DS := fun ev => (m ev).bind fun p => .ok (.nx, p.2.set i (some p.1))
def sRet (m : DE) : DS := fun ev => (m ev).bind fun p => (toVal p.1 p.2).bind fun q => .ok (.rt q.1, q.2)
def sRetO (m : DO) : DS := fun ev => (m ev).bind fun p => .ok (.rto p.1, p.2)
/-- return x, x an own slot, the object itself -/
def sRetS (i : Nat) : DS := fun ev => (lift (ev[i]?).join).bind fun d => .ok (.rto d, ev.set i none)
def sRetN : DS := fun ev => .ok (.rt .none, ev)
def sDrop (m : DE) : DS := fun ev => (m ev).bind fun p => .ok (.nx, p.2)
def sRaise (c : Str) : DS := fun _ => .err c
def sNever : DS := fun _ => .stuck
def lstOf : D → Option (List D)
  | .list ds => some ds
  | _ => none
/-- xs.append(e), xs an own slot -/
def sApp (i : Nat) (m : DE) : DS := fun ev => (lift ((ev[i]?).join.bind lstOf)).bind fun _ => (m ev).bind fun p => (toVal p.1 p.2).bind fun q => (lift ((q.2[i]?).join.bind lstOf)).bind fun ds =>
  if ds.length < sizeLine then .ok (.nx, q.2.set i (some (.list (ds ++ [q.1])))) else .stuck
/-- a store by an index or a key -/
def stIx : D → D → D → Option D
  | .list ds, .int k, v => (ixN ds.length k).map fun j => .list (ds.set j v)
  | .dict kvs, k, v => (keyOk kvs k).bind fun nk => if kvs.length < sizeLine then some (.dict (dPut kvs nk k v)) else none
  | _, _, _ => none
/-- xs[k] = e, xs an own slot -/
def sSetIx (i : Nat) (mi m : DE) : DS := fun ev => (m ev).bind fun p => (toVal p.1 p.2).bind fun q => (lift (q.2[i]?).join).bind fun _ => (mi q.2).bind fun r => (toVal r.1 r.2).bind fun t => (lift (t.2[i]?).join).bind fun d => (lift (stIx d t.1 q.1)).bind fun d' =>
  .ok (.nx, t.2.set i (some d'))
theorem lstOf_some {o : Option (Option D)} {ds : List D} (h : o.join.bind lstOf = some ds) : o = some (some (.list ds)) := by
  obtain ⟨d, e1, e2⟩ := Option.bind_eq_some_iff.mp h
  cases d with
  | list xs => cases e2; exact join_some e1
  | _ => cases e2
section
variable [WC] {X : Cx} {S : Sx} {W : WX} {a b c e : Expr} {st : Stmt} {sts : List Stmt} {ma mb mc m n : DE} {mo : DO} {ta : DT} {s1 s2 : DS} {pos : Pos}
theorem ss_nil : PSs X [] (tS X.K X.mg S W sNext) := pss_nil.imp fun Dn σ H ⟨F, G, P, ev, M, h⟩ => h F H σ (Same.refl _) M
theorem ss_cons (h1 : PS X st (tS X.K X.mg S W s1)) (h2 : PSs X sts (tS X.K X.mg S W s2)) : PSs X (st :: sts) (tS X.K X.mg S W (sSeq s1 s2)) := (pss_cons h1 h2).imp fun Dn σ H ⟨F, G, P, ev, M, h⟩ => by
  refine ⟨F, G, P, ev, M, ?_⟩
  unfold sSeq at h
  cases q : s1 ev with
  | err c => rw [q] at h; exact h
  | stuck => rw [q] at h; exact h
  | ok p =>
    obtain ⟨fl, ev1⟩ := p
    rw [q] at h
    simp only [Res.bind_ok] at h
    cases fl with
    | nx => exact fun F' H' σ' s M' => ⟨F', G, P, ev1, M', tN.mono s h⟩
    | rt d => exact h
    | rto d => exact h
    | bk => exact h
    | ct => exact h
theorem ss_one (h1 : PS X st (tS X.K X.mg S W s1)) : PSs X [st] (tS X.K X.mg S W s1) := (pss_one h1)
theorem sx_pass : PS X (.Pass pos) (tS X.K X.mg S W sNext) := ps_pass.imp fun Dn σ H ⟨F, G, P, ev, M, h⟩ => h F H σ (Same.refl _) M
theorem sx_break : PS X (.Break pos) (tS X.K X.mg S W (fun ev => .ok (.bk, ev))) := ps_break.imp fun Dn σ H ⟨F, G, P, ev, M, h⟩ => h F H σ (Same.refl _) M
theorem sx_cont : PS X (.Continue pos) (tS X.K X.mg S W (fun ev => .ok (.ct, ev))) := ps_continue.imp fun Dn σ H ⟨F, G, P, ev, M, h⟩ => h F H σ (Same.refl _) M
theorem sx_never : PS X st (tS X.K X.mg S W sNever) := ps_never.imp fun Dn σ H ⟨F, G, P, ev, M, h⟩ => h
theorem sx_if {as bs : List Stmt} (hc : PT X c (tT X.K X.mg S W ta)) (ha : PSs X as (tS X.K X.mg S W s1)) (hb : PSs X bs (tS X.K X.mg S W s2)) : PS X (.If c as bs pos) (tS X.K X.mg S W (sIf ta s1 s2)) := (ps_if hc ha hb).imp fun Dn σ H ⟨F, G, P, ev, M, h⟩ => by
  refine ⟨F, G, P, ev, M, h.bind.imp fun k ev1 F1 H1 _ q1 M1 h1 => ?_⟩
  cases k with
  | true => exact ⟨F1, G, P, ev1, M1, h1⟩
  | false => exact ⟨F1, G, P, ev1, M1, h1⟩
theorem sx_set (i : Nat) {x : Str} {px : Pos} (hN : X.N.Nodup) (he : PE X e (tE X.K X.mg S W m)) (h1 : S.own i = false := by rfl) (h2 : S.io i = false := by rfl) (hi : X.N[i]? = some x := by rfl) (hx : Loc X.env.scope x := by first | exact Or.inl rfl | exact Or.inr rfl)
    (hf : X.fn x = true ∨ X.env.scope.names.lookup x = some .local := by first | exact .inl rfl | exact .inr rfl) (hs : swapsWithSole [.Name x px] e pos.line X.env = pure false := by rfl) (hw : swappedStores [.Name x px] e X.env = pure none := by rfl) (ha : (assignEach [.Name x px] X.env).map (·.2) = [assign (.Name x px) X.env] := by rfl) :
    PS X (.Assign [.Name x px] e pos) (tS X.K X.mg S W (sSet i m)) := (ps_asg he (pg_name (i := i) hN hi hx hf) hs hw ha).imp fun Dn σ H ⟨F, G, P, ev, M, h⟩ => by
  refine ⟨F, G, P, ev, M, h.bind.imp fun rv ev1 F1 H1 _ q1 M1 h3 v r => ?_⟩
  obtain ⟨d, ev2, F2, _, s2, M2, r2, h3⟩ := tN.val M1 r h3
  exact h3 F2 H1 _ (Same.refl _) (M2.setv h1 h2 r2)
theorem sx_seto (i : Nat) {x : Str} {px : Pos} (hN : X.N.Nodup) (he : PE X e (tO X.K X.mg S W mo)) (h1 : S.own i = true := by rfl) (h2 : S.io i = false := by rfl) (hi : X.N[i]? = some x := by rfl) (hx : Loc X.env.scope x := by first | exact Or.inl rfl | exact Or.inr rfl)
    (hf : X.fn x = true ∨ X.env.scope.names.lookup x = some .local := by first | exact .inl rfl | exact .inr rfl) (hs : swapsWithSole [.Name x px] e pos.line X.env = pure false := by rfl) (hw : swappedStores [.Name x px] e X.env = pure none := by rfl) (ha : (assignEach [.Name x px] X.env).map (·.2) = [assign (.Name x px) X.env] := by rfl) :
    PS X (.Assign [.Name x px] e pos) (tS X.K X.mg S W (sSetO i mo)) := (ps_asg he (pg_name (i := i) hN hi hx hf) hs hw ha).imp fun Dn σ H ⟨F, G, P, ev, M, h⟩ => by
  refine ⟨F, G, P, ev, M, h.bind.imp fun d ev1 F1 H1 _ q1 M1 h3 a o f => ?_⟩
  exact h3 F1 H1 _ (Same.refl _) (M1.seto h1 h2 o f)
theorem sx_ret (he : PE X e (tE X.K X.mg S W m)) : PS X (.Return (some e) pos) (tS X.K X.mg S W (sRet m)) := (ps_ret he).imp fun Dn σ H ⟨F, G, P, ev, M, h⟩ => by
  refine ⟨F, G, P, ev, M, h.bind.imp fun rv ev1 F1 H1 _ q1 M1 h3 v r => ?_⟩
  obtain ⟨d, ev2, F2, _, s2, M2, r2, h3⟩ := tN.val M1 r h3
  exact h3 F2 H1 σ (Same.refl _) M2 v r2
theorem sx_reto (he : PE X e (tO X.K X.mg S W mo)) : PS X (.Return (some e) pos) (tS X.K X.mg S W (sRetO mo)) := (ps_ret he).imp fun Dn σ H ⟨F, G, P, ev, M, h⟩ => by
  refine ⟨F, G, P, ev, M, h.bind.imp fun d ev1 F1 H1 _ q1 M1 h3 a o f => ?_⟩
  exact h3 F1 H1 σ (Same.refl _) M1 a o f
theorem sx_rets (i : Nat) (he : PE X e (tE X.K X.mg S W (eOwn i))) (ho : S.own i = true := by rfl) : PS X (.Return (some e) pos) (tS X.K X.mg S W (sRetS i)) := (ps_ret he).imp fun Dn σ H ⟨F, G, P, ev, M, h⟩ => by
  obtain ⟨d, e1, h⟩ := h.lift
  have e2 := join_some e1
  refine ⟨F, G, P, ev, M, ?_⟩
  have e3 : eOwn i ev = .ok (.slot i, ev) := by unfold eOwn; rw [e1]; rfl
  rw [e3]
  intro F1 H1 q1 M1 v r
  obtain ⟨_, hs⟩ := r
  obtain ⟨a, x1, o, f0, g0⟩ := M1.so i d ho e2
  rw [hs] at x1
  have x1 : v = .ref a := by simpa using x1
  subst x1
  refine h F1 H1 σ q1 (M1.drop i) a o ⟨f0, g0, fun j d' hj e z => ?_⟩
  obtain ⟨nj, e⟩ := set_none_some e
  exact M1.sp j i _ _ a hj ho nj e e2 z hs
theorem sx_retn : PS X (.Return none pos) (tS X.K X.mg S W sRetN) := ps_retN.imp fun Dn σ H ⟨F, G, P, ev, M, h⟩ => h F H σ (Same.refl _) M .non rp_none
theorem sx_expr (he : PE X e (tE X.K X.mg S W m)) (hs : swapsWith e none pos.line X.env = pure false := by rfl) : PS X (.Expr e pos) (tS X.K X.mg S W (sDrop m)) := (ps_expr he hs).imp fun Dn σ H ⟨F, G, P, ev, M, h⟩ => by
  refine ⟨F, G, P, ev, M, h.bind.imp fun rv ev1 F1 H1 _ q1 M1 h3 v r => ?_⟩
  exact h3 F1 H1 σ (Same.refl _) M1
theorem sx_raise {x : Str} {f : Addr} {bmB : List Value} {B newId initId : String} {msg : Str} {j : Nat} {p p2 p3 : Pos} (hc : X.calm = true) (tk : L2N.Takes X W) (FB : ExcBaseFacts B newId initId bmB) (q : PySem.W.excIn X.K f bmB newId = true) (gC : X.mg x = some (.ref f)) (kC : PySem.W.keepIn X.K (.ref f) = true) (r : Raises X (.ref f)) (hg : Gl X x)
    (hdb : (x == ("__debug__" : Str)) = false := by decide) : PS X (.Raise (some (.Call (.Name x p) [.Constant (.str msg) j p2] [] p3)) none pos) (tS X.K X.mg S W (sRaise x)) := (L2N.ps_raise hc tk (L2N.pmk_own FB q gC kC r hg hdb)).imp fun Dn σ H ⟨F, G, P, ev, M, h⟩ => h F H σ (Same.refl _) M.fr f gC
theorem sx_app (i : Nat) {x : Str} {p1 p2 p3 : Pos} (he : PE X e (tE X.K X.mg S W m)) (ho : S.own i = true := by rfl) (hN : X.N[i]? = some x := by rfl) (hv : Vis X.env.scope x := by first | exact Or.inl rfl | exact Or.inr (Or.inl rfl) | exact Or.inr (Or.inr rfl))
    (hd : (x == ("__debug__" : Str)) = false := by decide) (hcd : (x == ("__classdict__" : Str)) = false := by decide) (hb : attributeBase (.Name x p1) "append" X.env (eval (.Name x p1) X.env) = eval (.Name x p1) X.env := by rfl) (hse : starEach [e] X.env = (false, eval e X.env) :: starEach [] X.env := by rfl) (hfew : ((backTo p3 (starEach [e] X.env)).all (fun x => !x.1) && (backToKw p3 (keywordEach [] X.env)).all (fun x => x.1.isSome) && decide ([e].length + ([] : List Keyword).length + (if ([] : List Keyword).isEmpty then 0 else 1) < 30)) = true := by rfl) (hline : (p2.endLine == p3.line) = true := by rfl)
    (hs : swapsWith (.Call (.Attribute (.Name x p1) "append" p2) [e] [] p3) none pos.line X.env = pure false := by rfl) :
    PS X (.Expr (.Call (.Attribute (.Name x p1) "append" p2) [e] [] p3) pos) (tS X.K X.mg S W (sApp i m)) := by
  refine (ps_expr (pe_bm PySem.F.plainAttrs_list PySem.F.slot_list_append PySem.F.type_list_append mt_append (pe_var hN hv hd hcd) (pa_cons he pa_nil hse) hb hfew hline hse rfl) hs).imp fun Dn σ H ⟨F, G, P, ev, M, h⟩ => ?_
  obtain ⟨ds, e1, h⟩ := h.lift
  have e1 := lstOf_some e1
  obtain ⟨a, x1, ⟨vs, x2, x3⟩, f0, g0⟩ := M.so i _ ho e1
  refine ⟨_, x1, .inl ⟨rfl, vs, .inl (.inl x2)⟩, F, G, P, ev, M, h.bind.imp fun rv ev1 F1 H1 _ q1 M1 h3 v r => ?_⟩
  obtain ⟨d, ev2, F2, _, s2, M2, r2, h3⟩ := tN.val M1 r h3
  obtain ⟨ds2, e2, h3⟩ := h3.lift
  have e2 := lstOf_some e2
  obtain ⟨hl, h3⟩ := h3.cond
  obtain ⟨a', y1, ⟨ws, y2, y3⟩, f1, g1⟩ := M2.so i _ ho e2
  rw [x1] at y1
  cases y1
  refine ⟨a, ws, v, rfl, rfl, y2, by rw [← y3.len]; exact hl, ?_⟩
  exact h3 F2 _ σ (Same.refl _) (M2.write ho e2 x1 (y3.append (Rps.one r2)))
theorem dic_ok {P : Program} {w : World} {H' : Hp} {h' : Heap} {a : Addr} {ps : List E3} {o : Obj} {es : Array DictEntry} {ep : Nat} (e1 : h'.get? a = some o) (e2 : o.ExactDict) (e3 : o.data = .dict es ep) (e4 : Paired EntR ps es.toList) : ObjOk P w H' h' a (dicO a ps) :=
  ⟨⟨o, es, ep, e1, e2, e3, e4⟩, ⟨o, e1⟩, fun h1 h2 ⟨o, es, ep, q1, q2, q3, q4⟩ k => ⟨o, es, ep, k _ q1, q2, q3, q4⟩⟩
theorem put_len (kvs : List (D × D)) (nk : NestedKey) (k v : D) : (dPut kvs nk k v).length ≤ kvs.length + 1 := by
  unfold dPut
  split
  · rw [List.length_map]; omega
  · rw [List.length_append, List.length_cons, List.length_nil]; omega
theorem keys_nodup {κ : Type} {em : κ → NestedKey} (inj : ∀ a b, em a = em b → a = b) {K : PySem.W.Frag} {mg : Str → Option Value} {F : Hp} {kvs : List (D × D)} {vs : List (κ × Value)} (h : Paired (KR K mg F em) kvs vs) (hn : (vs.map (·.1)).Nodup) : (kvs.map fun p => keyD p.1).Nodup := by
  have e : kvs.map (fun p => keyD p.1) = (vs.map (·.1)).map fun k => some (em k) := by
    clear hn
    induction h with
    | nil => rfl
    | cons h t ih => rw [List.map_cons, List.map_cons, List.map_cons, ih, h.1]
  rw [e]
  exact List.Pairwise.map _ (fun a b h z => h (inj _ _ (Option.some.inj z))) hn
/-- a store into a dict at a -/
theorem dic_store {pins : List (Addr × Obj)} {σ : L2.St} {H F : Hp} {s : Shared} {a : Addr} {kvs : List (D × D)} {nk : NestedKey} {kd dv : D} {x v : V} {xu vu : Value} {E : Value → Shared → Prop} {Q : Unit → Shared → Prop} (I : Inv X pins σ H s) (hw : X.w = WC.w) (hu : X.A.units + 64 < cLine) (sm : Same F H)
    (od : OwnD X.K X.mg F H (.dict kvs) a) (hk : keyOk kvs kd = some nk) (hl : kvs.length < sizeLine) (rk : Rp X.K X.mg F kd x) (rx : RelV x xu) (rd : Rp X.K X.mg F dv v) (rv : RelV v vu)
    (hQ : ∀ s' o', Inv X pins σ (upd H a o') s' → OwnD X.K X.mg F (upd H a o') (.dict (dPut kvs nk kd dv)) a → Q () s') : wpAny (model X.prog X.w) X.A (setItem (.ref a) xu vu) Q E s := by
  obtain ⟨ps, ha, hs, hr, hn, _⟩ := od
  obtain ⟨k1, k2, k3⟩ := keyOk_p hk
  have hc : DcL X.K H a ps := .inl (.inl ha)
  have hmu : Mut (H a) := by rw [ha]; exact True.intro
  have hlen := put_len kvs nk kd dv
  rcases k3 with ⟨t1, t2⟩ | ⟨t1, t2⟩
  · obtain ⟨xs, x1, x2⟩ := keyed_of I hw sm hc hr hn t2
    have rkH := Rp.mono sm _ _ rk
    obtain ⟨b, rfl, rfl⟩ := tup_ref t1 rkH rx
    have hxl := Paired.length x2
    refine wpAny_setItem_heap (knd := nestedKind X.prog X.w) (k := nk) (hsz := by omega) (a_in1 hu) (tup_is I k1 k2 rkH rx) x1 fun h' dd' hsb => ?_
    have x3 := ka_put x2 k1 k2 rk rd rv
    obtain ⟨ps', y1, y2⟩ := ka_back (P := X.prog) hw x3
    obtain ⟨o, es, ep, e1, e2, e3, e4, e5, e6⟩ := dd'
    refine hQ _ (dicO a ps') (L2.d_write I hmu hsb ⟨o, e1⟩ (dic_ok e1 e2 e3 (by rw [e4]; exact y2))) ⟨ps', upd_same, hs, y1, ?_, by omega⟩
    refine keys_nodup (em := id) (fun _ _ e => e) (ka_kr x3) ?_
    unfold pairsH
    rw [List.map_map]
    exact e6
  · obtain ⟨vs, x1, x2⟩ := mix_of I hw hc hr hn t2
    obtain ⟨k, e1, e2⟩ := sc_is t1 rk rx
    have e3 : nk = emK k := by rw [k1] at e1; exact Option.some.inj e1
    subst e3
    have hxl := Paired.length x2
    refine wpAny_setItem_pairs (hsz := by omega) e2 x1 fun h' dd' hsb => ?_
    have x3 := kr_put emK_inj x2 e1 rd rv
    obtain ⟨o, es, ep, q1, q2, q3, q4, q5, q6⟩ := dd'
    obtain ⟨ps', y1, y2⟩ := mix_back hw x3 q5 (fun e he => q4 e (by simpa using he)) (fun p hp => by
      unfold dPut at hp
      split at hp
      · obtain ⟨r, hr, rfl⟩ := List.mem_map.mp hp
        split <;> exact t2 r hr
      · rcases List.mem_append.mp hp with hp | hp
        · exact t2 p hp
        · rw [List.mem_singleton.mp hp]; exact t1)
    exact hQ _ (dicO a ps') (L2.d_write I hmu hsb ⟨o, q1⟩ (dic_ok q1 q2 q3 y2)) ⟨ps', upd_same, hs, y1, keys_nodup emK_inj x3 q6, by omega⟩
def rSetO (K : PySem.W.Frag) (mg : Str → Option Value) : TSet := fun o i v H Q => ∃ F d kd vd d' a, o = .ref a ∧ Same F H ∧ OwnD K mg F H d a ∧ Rp K mg F kd i ∧ Rp K mg F vd v ∧ stIx d kd vd = some d' ∧ ∀ o', OwnD K mg F (upd H a o') d' a → Q (upd H a o')
theorem set_own (hu : X.A.units + 64 < cLine) (hw : X.w = WC.w) : PSet X (rSetO X.K X.mg) := by
  intro pins s σ H o i v ov iv u Q I ro ri rv h
  obtain ⟨F, d, kd, vd, d', a, rfl, sm, od, rk, rd, e, k⟩ := h
  unfold stIx at e
  split at e
  · obtain ⟨j, e1, rfl⟩ := Option.map_eq_some_iff.mp e
    obtain ⟨ws, y2, y3⟩ := od
    simp only [Rp] at rk
    subst rk
    refine set_list pins s σ H _ _ v ov iv u Q I ro ri rv ⟨a, ws, _, j, rfl, rfl, y2, by rw [← y3.len]; exact e1, k _ ⟨_, upd_same, ?_⟩⟩
    refine Rps.of_get (by rw [List.length_set, List.length_set]; exact y3.len) fun n d' v' g1 g2 => ?_
    rcases set_get g1 with ⟨rfl, z1⟩ | ⟨nn, z1⟩
    · rcases set_get g2 with ⟨_, z2⟩ | ⟨n2, _⟩
      · rw [z1, z2]; exact rd
      · exact absurd rfl n2
    · rw [List.getElem?_set_ne (Ne.symm nn)] at g2
      obtain ⟨v'', z2, z3⟩ := Rps.get y3 z1
      rw [g2] at z2
      cases z2
      exact z3
  · obtain ⟨nk, e1, e2⟩ := Option.bind_eq_some_iff.mp e
    split at e2
    · rename_i hl
      cases e2
      cases ro
      exact dic_store I hw hu sm od e1 hl rk ri rd rv fun s' o' I' ow => ⟨_, I', k o' ow⟩
    · cases e2
  · cases e
theorem sx_setix (hu : X.A.units + 64 < cLine) (i : Nat) {x : Str} {ie : Expr} {mi : DE} {p1 p2 : Pos} (hv2 : PE X e (tE X.K X.mg S W m)) (hi : PE X ie (tE X.K X.mg S W mi)) (ho : S.own i = true := by rfl) (hN : X.N[i]? = some x := by rfl) (hv : Vis X.env.scope x := by first | exact Or.inl rfl | exact Or.inr (Or.inl rfl) | exact Or.inr (Or.inr rfl))
    (hd : (x == ("__debug__" : Str)) = false := by decide) (hcd : (x == ("__classdict__" : Str)) = false := by decide)
    (ha : ∀ v, assign (.Subscript (.Name x p1) ie p2) X.env v = (do
      let ov ← holding [v] (eval (.Name x p1) X.env)
      let iv ← holding [v, ov] (eval ie X.env)
      standAt p2
      holding [v, ov, iv] (setItem ov iv v)
      release [v, ov, iv] []) := by intro _; rfl)
    (hs : swapsWithSole [.Subscript (.Name x p1) ie p2] e pos.line X.env = pure false := by rfl) (hw : swappedStores [.Subscript (.Name x p1) ie p2] e X.env = pure none := by rfl) (hae : (assignEach [.Subscript (.Name x p1) ie p2] X.env).map (·.2) = [assign (.Subscript (.Name x p1) ie p2) X.env] := by rfl) (hww : X.w = WC.w := by rfl) :
    PS X (.Assign [.Subscript (.Name x p1) ie p2] e pos) (tS X.K X.mg S W (sSetIx i mi m)) := by
  refine (ps_asg hv2 (pg_sub (pe_var hN hv hd hcd) hi (set_own hu hww) ha) hs hw hae).imp fun Dn σ H ⟨F, G, P, ev, M, h⟩ => ?_
  refine ⟨F, G, P, ev, M, h.bind.imp fun rv ev1 F1 H1 _ q1 M1 h3 v r => ?_⟩
  obtain ⟨d, ev2, F2, _, s2, M2, r2, h3⟩ := tN.val M1 r h3
  obtain ⟨c, e0, h3⟩ := h3.lift
  obtain ⟨a, x1, o, f0, g0⟩ := M2.so i _ ho (join_some e0)
  refine ⟨_, x1, F2, G, P, ev2, M2, h3.bind.imp fun rk ev3 F3 H3 _ q3 M3 h4 u ru => ?_⟩
  obtain ⟨kd, ev4, F4, _, s4, M4, r4, h4⟩ := tN.val M3 ru h4
  obtain ⟨dc, e6, h4⟩ := h4.lift
  have e6 := join_some e6
  obtain ⟨d', e7, h4⟩ := h4.lift
  obtain ⟨a', y1, ow, f1, g1⟩ := M4.so i _ ho e6
  rw [x1] at y1
  cases y1
  exact ⟨F4, dc, kd, d, d', a, rfl, M4.fr.fh, ow, r4, Rp.mono (q3.trans s4) _ _ r2, e7, fun o' w => h4 F4 _ σ (Same.refl _) (M4.writeO ho e6 x1 w)⟩
end
end TL

set_option Elab.async false
set_option linter.all false
set_option maxRecDepth 100000
namespace TL
open PySem PySem.Spec PyProof.Rows L2

/-! ### several values at once: some frozen, some fresh objects -/
inductive AV where
  | v (d : D) | o (d : D)
inductive Itm where
  | v (m : DE) | o (m : DO)
def evIt : List Itm → Ev → Res (List AV × Ev)
  | [], ev => .ok ([], ev)
  | .v m :: r, ev => (m ev).bind fun p => (toVal p.1 p.2).bind fun q => (evIt r q.2).bind fun t => .ok (.v q.1 :: t.1, t.2)
  | .o m :: r, ev => (m ev).bind fun p => (evIt r p.2).bind fun t => .ok (.o p.1 :: t.1, t.2)
def AVR [WC] (K : PySem.W.Frag) (mg : Str → Option Value) (S : Sx) (F H : Hp) (ev : Ev) (σ : L2.St) : Hp → List AV → List V → Prop
  | _, [], vs => vs = []
  | G, .v d :: as, vs => ∃ v w, vs = v :: w ∧ Rp K mg F d v ∧ AVR K mg S F H ev σ G as w
  | G, .o d :: as, vs => ∃ a w o, vs = .ref a :: w ∧ OwnD K mg F H d a ∧ FreshAt S ev σ F G a ∧ H a = some o ∧ AVR K mg S F H ev σ (upd G a o) as w
def tI [WC] (K : PySem.W.Frag) (mg : Str → Option Value) (S : Sx) (W : WX) (its : List Itm) : TA := fun σ H Q => ∃ F G P ev, Sim K mg S F G P H ev σ ∧ tM K mg S W G P σ F (evIt its ev) fun as ev' F' H' => ∀ vs, AVR K mg S F' H' ev' σ G as vs → Q vs H'
section
variable [WC] {α : Type} {K : PySem.W.Frag} {mg : Str → Option Value} {S : Sx} {W : WX} {F F' G H H' : Hp} {P : Nat → Option Addr} {ev ev' : Ev} {σ : L2.St}
/-- a fresh object is kept as if it were the caller's -/
theorem Sim.keepG (M : Sim K mg S F G P H ev σ) {d : D} {a : Addr} {o : HO} (ow : OwnD K mg F H d a) (f : FreshAt S ev σ F G a) (ha : H a = some o) : Sim K mg S F (upd G a o) P H ev σ where
  fr := ⟨M.fr.fh, fun b u e => by
      by_cases hb : b = a
      · subst hb; rw [upd_same] at e; cases e; exact ha
      · rw [upd_ne hb] at e; exact M.fr.gh _ _ e, fun b u e => by
      rw [upd_ne (fun z => by rw [z, f.1] at e; cases e)]; exact M.fr.gf _ _ e, M.fr.nt, fun hT b ps e => by
      by_cases hb : b = a
      · subst hb
        rw [upd_same] at e
        obtain ⟨o', q1, q2⟩ := ow.there
        rw [ha] at q1; cases q1
        exact q2 ps (Option.some.inj e)
      · rw [upd_ne hb] at e; exact M.fr.gt hT _ _ e, M.fr.tb⟩
  len := M.len
  sl := M.sl
  so := fun i d h e => by
    obtain ⟨b, e1, q, f0, g0⟩ := M.so i d h e
    refine ⟨b, e1, q, f0, ?_⟩
    rw [upd_ne (fun z => f.2.2 i d h e (by rw [← z]; exact e1))]; exact g0
  sp := M.sp
  pn := M.pn
theorem Sim.lessG (M : Sim K mg S F G' P H ev σ) (s : Same G G') : Sim K mg S F G P H ev σ where
  fr := ⟨M.fr.fh, s.trans M.fr.gh, fun a o e => same_none s (M.fr.gf a o e), M.fr.nt, fun hT a ps e => M.fr.gt hT a ps (s _ _ e), M.fr.tb⟩
  len := M.len
  sl := M.sl
  so := fun i d h e => by
    obtain ⟨b, e1, q, f0, g0⟩ := M.so i d h e
    exact ⟨b, e1, q, f0, same_none s g0⟩
  sp := M.sp
  pn := M.pn
theorem tM.chG {r : Res (α × Ev)} {post : α → Ev → Hp → Hp → Prop} (hs : Same G G') (fg : S.T ≠ [] → ∀ a ps, G' a ≠ some (.tbl ps)) (h : tM K mg S W G P σ F r post) : tM K mg S W G' P σ F r (fun a ev' F' H' => Sim K mg S F' G' P H' ev' σ ∧ post a ev' F' H') := by
  cases r with
  | ok p => exact fun F1 H1 s M => ⟨M, h F1 H1 s (M.lessG hs)⟩
  | err c => exact fun F1 H1 s f => h F1 H1 s ⟨f.fh, hs.trans f.gh, fun a o e => same_none hs (f.gf a o e), f.nt, fun hT a ps e => f.gt hT a ps (hs _ _ e), f.tb⟩
  | stuck => exact h
section
variable {X : Cx} {a b c e : Expr} {es : List Expr} {m : DE} {mo : DO} {its : List Itm}
theorem si_nil : PA X [] (tI X.K X.mg S W []) := pa_nil.imp fun σ H Q ⟨F, G, P, ev, M, h⟩ => h F H (Same.refl _) M _ rfl
theorem si_v (he : PE X e (tE X.K X.mg S W m)) (hr : PA X es (tI X.K X.mg S W its)) (hs : starEach (e :: es) X.env = (false, eval e X.env) :: starEach es X.env := by rfl) : PA X (e :: es) (tI X.K X.mg S W (.v m :: its)) := (pa_cons he hr hs).imp fun σ H Q ⟨F, G, P, ev, M, h⟩ => by
  refine ⟨F, G, P, ev, M, h.bind.imp fun rv ev1 F1 H1 _ s1 M1 h1 v r => ?_⟩
  cases q : toVal rv ev1 with
  | err c => exact absurd q toVal_ne_err
  | stuck => rw [q] at h1; exact False.elim h1
  | ok p =>
    obtain ⟨d, ev2⟩ := p
    rw [q] at h1
    simp only [Res.bind_ok] at h1
    obtain ⟨F2, s2, M2, r2⟩ := toVal_ok M1 r q
    exact ⟨F2, G, P, ev2, M2, (tM.mono s2 h1).bind.imp fun as ev3 F3 H3 _ s3 M3 h3 vs av => h3 F3 H3 (Same.refl _) M3 (v :: vs) ⟨v, vs, rfl, Rp.mono s3 _ _ r2, av⟩⟩
theorem si_o (he : PE X e (tO X.K X.mg S W mo)) (hr : PA X es (tI X.K X.mg S W its)) (hs : starEach (e :: es) X.env = (false, eval e X.env) :: starEach es X.env := by rfl) : PA X (e :: es) (tI X.K X.mg S W (.o mo :: its)) := (pa_cons he hr hs).imp fun σ H Q ⟨F, G, P, ev, M, h⟩ => by
  refine ⟨F, G, P, ev, M, h.bind.imp fun d ev1 F1 H1 _ s1 M1 h1 a ow f => ?_⟩
  obtain ⟨o, ha, hn⟩ := ow.there
  have MG := M1.keepG ow f ha
  have hs2 : Same G (upd G a o) := same_upd f.2.1
  refine ⟨F1, upd G a o, P, ev1, MG, ((tM.chG hs2 MG.fr.gt h1.bind).imp fun as ev3 F3 H3 e3 s3 M3 hh vs av => ?_)⟩
  obtain ⟨_, h3⟩ := hh
  have M4 := M3.lessG hs2
  have hG : H3 a = some o := M3.fr.gh a o upd_same
  have fF : F3 a = none := by
    cases q : F3 a with
    | none => rfl
    | some u => have := M3.fr.gf a u q; rw [upd_same] at this; cases this
  refine h3 F3 H3 (Same.refl _) M4 (.ref a :: vs) ⟨a, vs, o, rfl, ?_, ⟨fF, f.2.1, fun i d' ho e z => ?_⟩, hG, av⟩
  · exact ow.at s3 fun u y1 => by rw [ha] at y1; cases y1; exact hG
  · obtain ⟨b, y1, y2, y3, y4⟩ := M3.so i d' ho e
    rw [z] at y1
    cases y1
    rw [upd_same] at y4
    cases y4
end
def setAll : List Nat → List AV → Ev → Option Ev
  | [], [], ev => some ev
  | i :: is, .v d :: as, ev => setAll is as (ev.set i (some d))
  | i :: is, .o d :: as, ev => setAll is as (ev.set i (some d))
  | _, _, _ => none
def kinds (S : Sx) : List Nat → List Itm → Bool
  | [], [] => true
  | i :: is, .v _ :: as => !S.own i && !S.io i && kinds S is as
  | i :: is, .o _ :: as => S.own i && !S.io i && kinds S is as
  | _, _ => false
def kindsA (S : Sx) : List Nat → List AV → Bool
  | [], [] => true
  | i :: is, .v _ :: as => !S.own i && !S.io i && kindsA S is as
  | i :: is, .o _ :: as => S.own i && !S.io i && kindsA S is as
  | _, _ => false
theorem kinds_ev : ∀ {its : List Itm} {is : List Nat} {ev ev' : Ev} {as : List AV}, kinds S is its = true → evIt its ev = .ok (as, ev') → kindsA S is as = true
  | [], is, ev, ev', as, k, e => by
    cases e
    cases is with
    | nil => rfl
    | cons i is => cases k
  | .v m :: r, is, ev, ev', as, k, e => by
    cases is with
    | nil => cases k
    | cons i is =>
      simp only [kinds, Bool.and_eq_true] at k
      unfold evIt at e
      cases q1 : m ev with
      | err c => rw [q1] at e; cases e
      | stuck => rw [q1] at e; cases e
      | ok p1 =>
        rw [q1] at e
        simp only [Res.bind_ok] at e
        cases q2 : toVal p1.1 p1.2 with
        | err c => rw [q2] at e; cases e
        | stuck => rw [q2] at e; cases e
        | ok p2 =>
          rw [q2] at e
          simp only [Res.bind_ok] at e
          cases q3 : evIt r p2.2 with
          | err c => rw [q3] at e; cases e
          | stuck => rw [q3] at e; cases e
          | ok p3 =>
            rw [q3] at e
            cases e
            simp only [kindsA, Bool.and_eq_true]
            exact ⟨k.1, kinds_ev (as := p3.1) (ev' := p3.2) k.2 q3⟩
  | .o m :: r, is, ev, ev', as, k, e => by
    cases is with
    | nil => cases k
    | cons i is =>
      simp only [kinds, Bool.and_eq_true] at k
      unfold evIt at e
      cases q1 : m ev with
      | err c => rw [q1] at e; cases e
      | stuck => rw [q1] at e; cases e
      | ok p1 =>
        rw [q1] at e
        simp only [Res.bind_ok] at e
        cases q3 : evIt r p1.2 with
        | err c => rw [q3] at e; cases e
        | stuck => rw [q3] at e; cases e
        | ok p3 =>
          rw [q3] at e
          cases e
          simp only [kindsA, Bool.and_eq_true]
          exact ⟨k.1, kinds_ev (as := p3.1) (ev' := p3.2) k.2 q3⟩
def setV : List Nat → List V → L2.St → L2.St
  | i :: is, v :: vs, σ => setV is vs (σ.set i (some v))
  | _, _, σ => σ
theorem AVR_ev {F H : Hp} {ev ev' : Ev} {σ σ' : L2.St} (hx : ∀ G a, FreshAt S ev σ F G a → (∃ o, G a = some o) ∨ FreshAt S ev' σ' F G a) : ∀ {G : Hp} {as : List AV} {vs : List V}, AVR K mg S F H ev σ G as vs → AVR K mg S F H ev' σ' G as vs
  | G, [], vs, h => h
  | G, .v d :: as, vs, h => by
    obtain ⟨v, w, e, r, q⟩ := h
    exact ⟨v, w, e, r, AVR_ev hx q⟩
  | G, .o d :: as, vs, h => by
    obtain ⟨a, w, o, e, r, f, ha, q⟩ := h
    refine ⟨a, w, o, e, r, ?_, ha, AVR_ev hx q⟩
    rcases hx G a f with ⟨o', z⟩ | z
    · rw [f.2.1] at z; cases z
    · exact z
theorem setAll_ok : ∀ {is : List Nat} {as : List AV} {vs : List V} {G : Hp} {ev ev' : Ev} {σ : L2.St}, kindsA S is as = true → Sim K mg S F G P H ev σ → AVR K mg S F H ev σ G as vs → setAll is as ev = some ev' → Sim K mg S F G P H ev' (setV is vs σ)
  | [], [], vs, G, ev, ev', σ, k, M, av, e => by cases e; cases av; exact M
  | i :: is, .v d :: as, vs, G, ev, ev', σ, k, M, av, e => by
    simp only [kindsA, Bool.and_eq_true, Bool.not_eq_true'] at k
    obtain ⟨v, w, rfl, r, q⟩ := av
    refine setAll_ok (is := is) (as := as) k.2 (M.setv k.1.1 k.1.2 r) (AVR_ev (fun G a f => .inr ⟨f.1, f.2.1, fun j d' ho e2 z => ?_⟩) q) e
    have nj : j ≠ i := fun z => by rw [z, k.1.1] at ho; cases ho
    rw [List.getElem?_set_ne (Ne.symm nj)] at e2 z
    exact f.2.2 j d' ho e2 z
  | i :: is, .o d :: as, vs, G, ev, ev', σ, k, M, av, e => by
    simp only [kindsA, Bool.and_eq_true, Bool.not_eq_true'] at k
    obtain ⟨a, w, o, rfl, r, f, ha, q⟩ := av
    have M2 := (M.keepG r f ha)
    have M3 : Sim K mg S F G P H (ev.set i (some d)) (σ.set i (some (.ref a))) := M.seto k.1.1 k.1.2 r f
    have hs : Same G (upd G a o) := same_upd f.2.1
    -- the further fresh objects stand apart from this one
    have q2 : AVR K mg S F H (ev.set i (some d)) (σ.set i (some (.ref a))) (upd G a o) as w := by
      have gen : ∀ {G2 : Hp} {as : List AV} {w : List V}, (∃ o', G2 a = some o') → AVR K mg S F H ev σ G2 as w → AVR K mg S F H (ev.set i (some d)) (σ.set i (some (.ref a))) G2 as w := by
        intro G2 as
        induction as generalizing G2 with
        | nil => intro w _ h; exact h
        | cons x as ih =>
          intro w hg h
          cases x with
          | v d' =>
            obtain ⟨v, w', e, r', q'⟩ := h
            exact ⟨v, w', e, r', ih hg q'⟩
          | o d' =>
            obtain ⟨b, w', o', e, r', f', hb, q'⟩ := h
            have hne : b ≠ a := fun z => by
              obtain ⟨o2, z2⟩ := hg
              rw [← z, f'.2.1] at z2; cases z2
            refine ⟨b, w', o', e, r', ⟨f'.1, f'.2.1, fun j d2 ho e2 z => ?_⟩, hb, ih ?_ q'⟩
            · rcases set_get e2 with ⟨rfl, _⟩ | ⟨nj, e3⟩
              · rcases set_get z with ⟨_, z2⟩ | ⟨n2, _⟩
                · cases z2; exact hne rfl
                · exact n2 rfl
              · rw [List.getElem?_set_ne (Ne.symm nj)] at z
                exact f'.2.2 j d2 ho e3 z
            · obtain ⟨o2, z2⟩ := hg
              exact ⟨o2, by rw [upd_ne (Ne.symm hne)]; exact z2⟩
      exact gen ⟨o, upd_same⟩ q
    -- back to G
    have back : ∀ {G2 : Hp} {as : List AV} {w : List V}, ∀ G1, Same G1 G2 → AVR K mg S F H (ev.set i (some d)) (σ.set i (some (.ref a))) G2 as w → AVR K mg S F H (ev.set i (some d)) (σ.set i (some (.ref a))) G1 as w := by
      intro G2 as
      induction as generalizing G2 with
      | nil => intro w G1 _ h; exact h
      | cons x as ih =>
        intro w G1 hg h
        cases x with
        | v d' =>
          obtain ⟨v, w', e, r', q'⟩ := h
          exact ⟨v, w', e, r', ih G1 hg q'⟩
        | o d' =>
          obtain ⟨b, w', o', e, r', f', hb, q'⟩ := h
          refine ⟨b, w', o', e, r', ⟨f'.1, same_none hg f'.2.1, f'.2.2⟩, hb, ih _ ?_ q'⟩
          intro c u hc
          by_cases hcb : c = b
          · subst hcb; rw [upd_same] at hc ⊢; exact hc
          · rw [upd_ne hcb] at hc ⊢; exact hg _ _ hc
    exact setAll_ok (is := is) (as := as) k.2 M3 (back G hs q2) e
  | [], .v _ :: _, _, _, _, _, _, k, _, _, _ => by cases k
  | [], .o _ :: _, _, _, _, _, _, k, _, _, _ => by cases k
  | _ :: _, [], _, _, _, _, _, k, _, _, _ => by cases k
end
def sPar (is : List Nat) (its : List Itm) : DS := fun ev => (evIt its ev).bind fun p => (lift (setAll is p.1 p.2)).bind fun ev' => .ok (.nx, ev')
section
variable [WC] {X : Cx} {S : Sx} {W : WX} {a b c e : Expr} {its : List Itm} {pos : Pos}
theorem AVR.two {K : PySem.W.Frag} {mg : Str → Option Value} {F H G : Hp} {ev : Ev} {σ : L2.St} : ∀ {as : List AV} {vs : List V}, AVR K mg S F H ev σ G as vs → vs.length = as.length
  | [], vs, h => by cases h; rfl
  | .v d :: as, vs, h => by obtain ⟨v, w, rfl, _, q⟩ := h; simp [AVR.two q]
  | .o d :: as, vs, h => by obtain ⟨v, w, o, rfl, _, _, _, q⟩ := h; simp [AVR.two q]
theorem evIt_len : ∀ {its : List Itm} {is : List Nat} {as : List AV}, kindsA S is as = true → as.length = is.length
  | _, [], [], _ => rfl
  | its, i :: is, .v _ :: as, k => by simp only [kindsA, Bool.and_eq_true] at k; simp [evIt_len (its := its) k.2]
  | its, i :: is, .o _ :: as, k => by simp only [kindsA, Bool.and_eq_true] at k; simp [evIt_len (its := its) k.2]
  | _, [], .v _ :: _, k => by cases k
  | _, [], .o _ :: _, k => by cases k
  | _, _ :: _, [], k => by cases k
theorem sx_par (i j : Nat) {x y : Str} {px py pt : Pos} {kt k2 pt2} (hc : X.calm = true) (hN : X.N.Nodup) (ha : PA X [a, b] (tI X.K X.mg S W its)) (hk : kinds S [i, j] its = true := by rfl) (hi : X.N[i]? = some x := by rfl) (hj : X.N[j]? = some y := by rfl) (hij : i ≠ j := by decide)
    (hx : X.env.scope.names.lookup x = some .local := by rfl) (hy : X.env.scope.names.lookup y = some .local := by rfl)
    (hw : swappedStores [.Tuple [.Name x px, .Name y py] kt pt] (.Tuple [a, b] k2 pt2) X.env = pure (some [x, y]) := by rfl)
    (hs : swapsWithSole [.Tuple [.Name x px, .Name y py] kt pt] (.Tuple [a, b] k2 pt2) pos.line X.env = pure false := by rfl) :
    PS X (.Assign [.Tuple [.Name x px, .Name y py] kt pt] (.Tuple [a, b] k2 pt2) pos) (tS X.K X.mg S W (sPar [i, j] its)) := (ps_par hc hN hi hj hij hx hy ha hw hs).imp fun Dn σ H ⟨F, G, P, ev, M, h⟩ => by
  refine ⟨F, G, P, ev, M, h.bind.imp fun as ev1 F1 H1 e1 s1 M1 h1 vs av => ?_⟩
  obtain ⟨ev2, e2, h1⟩ := h1.lift
  have kA := kinds_ev hk e1
  have l1 := av.two
  have l2 := evIt_len (its := its) kA
  match vs, l1.trans l2, av with
  | [v, w], _, av => exact ⟨v, w, rfl, h1 F1 H1 _ (Same.refl _) (setAll_ok kA M1 av e2)⟩
theorem sx_par3 (i j l : Nat) {x y z : Str} {px py pz pt : Pos} {kt k2 pt2} (hc : X.calm = true) (hN : X.N.Nodup) (ha : PA X [a, b, c] (tI X.K X.mg S W its)) (hk : kinds S [i, j, l] its = true := by rfl) (hi : X.N[i]? = some x := by rfl) (hj : X.N[j]? = some y := by rfl) (hl : X.N[l]? = some z := by rfl) (hij : i ≠ j := by decide) (hil : i ≠ l := by decide) (hjl : j ≠ l := by decide)
    (hx : X.env.scope.names.lookup x = some .local := by rfl) (hy : X.env.scope.names.lookup y = some .local := by rfl) (hz : X.env.scope.names.lookup z = some .local := by rfl)
    (hw : swappedStores [.Tuple [.Name x px, .Name y py, .Name z pz] kt pt] (.Tuple [a, b, c] k2 pt2) X.env = pure (some [x, y, z]) := by rfl)
    (hs : swapsWithSole [.Tuple [.Name x px, .Name y py, .Name z pz] kt pt] (.Tuple [a, b, c] k2 pt2) pos.line X.env = pure false := by rfl) :
    PS X (.Assign [.Tuple [.Name x px, .Name y py, .Name z pz] kt pt] (.Tuple [a, b, c] k2 pt2) pos) (tS X.K X.mg S W (sPar [i, j, l] its)) := (ps_par3 hc hN hi hj hl hij hil hjl hx hy hz ha hw hs).imp fun Dn σ H ⟨F, G, P, ev, M, h⟩ => by
  refine ⟨F, G, P, ev, M, h.bind.imp fun as ev1 F1 H1 e1 s1 M1 h1 vs av => ?_⟩
  obtain ⟨ev2, e2, h1⟩ := h1.lift
  have kA := kinds_ev hk e1
  have l1 := av.two
  have l2 := evIt_len (its := its) kA
  match vs, l1.trans l2, av with
  | [v, w, u], _, av => exact ⟨v, w, u, rfl, h1 F1 H1 _ (Same.refl _) (setAll_ok kA M1 av e2)⟩
end
end TL

set_option Elab.async false
set_option linter.all false
set_option maxRecDepth 100000
namespace TL
open PySem PySem.Spec PyProof.Rows L2

/-! ### targets -/
def bName (i : Nat) : D → Ev → Option Ev := fun d ev => some (ev.set i (some d))
def bNil : List D → Ev → Option Ev
  | [], ev => some ev
  | _, _ => none
def bCons (b : D → Ev → Option Ev) (bs : List D → Ev → Option Ev) : List D → Ev → Option Ev
  | d :: ds, ev => (b d ev).bind (bs ds)
  | [], _ => none
def bTup (n : Nat) (bs : List D → Ev → Option Ev) : D → Ev → Option Ev
  | .tuple ds, ev => if ds.length = n then bs ds ev else none
  | _, _ => none
/-- the slots but those told are as they were -/
def Agree (is : List Nat) (σ σ' : L2.St) : Prop := σ'.length = σ.length ∧ ∀ j, j ∉ is → σ'[j]? = σ[j]?
theorem Agree.trans {is js : List Nat} {σ σ1 σ2 : L2.St} (a : Agree is σ σ1) (b : Agree js σ1 σ2) : Agree (is ++ js) σ σ2 := ⟨b.1.trans a.1, fun j h => by
  rw [List.mem_append, not_or] at h
  rw [b.2 j h.2, a.2 j h.1]⟩
def tG [WC] (K : PySem.W.Frag) (mg : Str → Option Value) (S : Sx) (b : D → Ev → Option Ev) (is : List Nat) : TG := fun v σ H Q => ∃ F G P ev d ev', Sim K mg S F G P H ev σ ∧ Rp K mg F d v ∧ b d ev = some ev' ∧ ∀ σ', Agree is σ σ' → Sim K mg S F G P H ev' σ' → Q σ' H
def tGs [WC] (K : PySem.W.Frag) (mg : Str → Option Value) (S : Sx) (b : List D → Ev → Option Ev) (is : List Nat) : TGs := fun vs σ H Q => ∃ F G P ev ds ev', Sim K mg S F G P H ev σ ∧ Rps K mg F ds vs ∧ b ds ev = some ev' ∧ ∀ σ', Agree is σ σ' → Sim K mg S F G P H ev' σ' → Q σ' H
theorem PG_imp {X : Cx} {e : Expr} {t t' : TG} (h : PG X e t) (w : ∀ v σ H Q, t' v σ H Q → t v σ H Q) : PG X e t' := ⟨fun pins s σ H v u Q I r q => h.run pins s σ H v u Q I r (w _ _ _ _ q)⟩
theorem PGs_imp {X : Cx} {e : List Expr} {t t' : TGs} (h : PGs X e t) (w : ∀ v σ H Q, t' v σ H Q → t v σ H Q) : PGs X e t' := ⟨fun pins s σ H v u Q I r q => h.run pins s σ H v u Q I r (w _ _ _ _ q)⟩
section
variable [WC] {X : Cx} {S : Sx} {W : WX} {a b c e : Expr} {es : List Expr} {m : DE} {pos : Pos} {bd : D → Ev → Option Ev} {bds : List D → Ev → Option Ev} {is js : List Nat}
theorem sg_name (i : Nat) {x : Str} (hN : X.N.Nodup) (h1 : S.own i = false := by rfl) (h2 : S.io i = false := by rfl) (hi : X.N[i]? = some x := by rfl) (hx : Loc X.env.scope x := by first | exact Or.inl rfl | exact Or.inr rfl)
    (hf : X.fn x = true ∨ X.env.scope.names.lookup x = some .local := by first | exact .inl rfl | exact .inr rfl) : PG X (.Name x pos) (tG X.K X.mg S (bName i) [i]) := PG_imp (pg_name (i := i) hN hi hx hf) fun v σ H Q ⟨F, G, P, ev, d, ev', M, r, e, k⟩ => by
  cases e
  exact k _ ⟨by simp, fun j hj => List.getElem?_set_ne (fun z => hj (by simp [z]))⟩ (M.setv h1 h2 r)
theorem sg_nil : PGs X [] (tGs X.K X.mg S bNil []) := PGs_imp pgs_nil fun vs σ H Q ⟨F, G, P, ev, ds, ev', M, r, e, k⟩ => by
  cases ds with
  | nil => cases e; simp only [Rps] at r; exact ⟨r, k _ ⟨rfl, fun _ _ => rfl⟩ M⟩
  | cons d ds => cases e
theorem sg_cons (h1 : PG X e (tG X.K X.mg S bd is)) (h2 : PGs X es (tGs X.K X.mg S bds js)) (hs : (assignEach (e :: es) X.env).map (·.2) = assign e X.env :: (assignEach es X.env).map (·.2) := by rfl) : PGs X (e :: es) (tGs X.K X.mg S (bCons bd bds) (is ++ js)) := PGs_imp (pgs_cons h1 h2 hs) fun vs σ H Q ⟨F, G, P, ev, ds, ev', M, r, e, k⟩ => by
  cases ds with
  | nil => cases e
  | cons d ds =>
    obtain ⟨ev1, e1, e2⟩ := Option.bind_eq_some_iff.mp e
    simp only [Rps] at r
    obtain ⟨v, w, rfl, r1, r2⟩ := r
    exact ⟨v, w, rfl, F, G, P, ev, d, ev1, M, r1, e1, fun σ' A' M' => ⟨F, G, P, ev1, ds, ev', M', r2, e2, fun σ2 A2 M2 => k σ2 (A'.trans A2) M2⟩⟩
theorem sg_tup {kk : Nat} {n : Nat} (hc : X.calm = true) (h : PGs X es (tGs X.K X.mg S bds is)) (hn : (assignEach es X.env).length = n := by rfl) (hst : (assignEach es X.env).findIdx? (·.1) = none := by rfl) : PG X (.Tuple es kk pos) (tG X.K X.mg S (bTup n bds) is) := PG_imp (pg_tup hc h hn hst) fun v σ H Q ⟨F, G, P, ev, d, ev', M, r, e, k⟩ => by
  cases d with
  | tuple ds =>
    have e : (if ds.length = n then bds ds ev else none) = some ev' := e
    by_cases hl : ds.length = n
    · rw [if_pos hl] at e
      simp only [Rp] at r
      obtain ⟨a, vs, rfl, q, rs⟩ := r
      exact ⟨a, vs, rfl, SqT_mono M.fr.fh q, by rw [← rs.len]; exact hl, F, G, P, ev, ds, ev', M, rs, e, k⟩
    · rw [if_neg hl] at e; cases e
  | _ => cases e
/-- a, b = e -/
def sUnp (b : D → Ev → Option Ev) (m : DE) : DS := fun ev => (m ev).bind fun p => (toVal p.1 p.2).bind fun q => (lift (b q.1 q.2)).bind fun ev' => .ok (.nx, ev')
theorem sx_unp {tg : Expr} (he : PE X e (tE X.K X.mg S W m)) (hg : PG X tg (tG X.K X.mg S bd is)) (hs : swapsWithSole [tg] e pos.line X.env = pure false := by rfl) (hw : swappedStores [tg] e X.env = pure none := by rfl) (ha : (assignEach [tg] X.env).map (·.2) = [assign tg X.env] := by rfl) :
    PS X (.Assign [tg] e pos) (tS X.K X.mg S W (sUnp bd m)) := (ps_asg he hg hs hw ha).imp fun Dn σ H ⟨F, G, P, ev, M, h⟩ => by
  refine ⟨F, G, P, ev, M, h.bind.imp fun rv ev1 F1 H1 _ q1 M1 h3 v r => ?_⟩
  obtain ⟨d, ev2, F2, _, s2, M2, r2, h3⟩ := tN.val M1 r h3
  obtain ⟨ev3, e3, h3⟩ := h3.lift
  exact ⟨F2, G, P, ev2, d, ev3, M2, r2, e3, fun σ' _ M' => h3 F2 H1 σ' (Same.refl _) M'⟩

/-! ### what is walked -/
def Serves (K : PySem.W.Frag) (mg : Str → Option Value) (J : It) (F : Hp) (ds : List D) : Prop := ∀ F1 H1 (i : Nat), Same F F1 → Same F1 H1 → (i = ds.length → J.stop i H1) ∧ ∀ d, ds[i]? = some d → J.go i H1 ∧ ∀ x H2, J.yld i H1 x H2 → ∃ F2, Grow F1 H1 F2 H2 ∧ Rp K mg F2 d x
abbrev DI := Ev → Res (List D × Ev)
def tIt (K : PySem.W.Frag) (mg : Str → Option Value) (S : Sx) (W : WX) (m : DI) : TI := fun σ H R => ∃ F G P ev, Sim K mg S F G P H ev σ ∧ tM K mg S W G P σ F (m ev) fun ds _ F' H' => ∀ J, Serves K mg J F' ds → R J H'
theorem PI_imp {X : Cx} {tg e : Expr} {t t' : TI} (h : PI X tg e t) (w : ∀ σ H R, t' σ H R → t σ H R) : PI X tg e t' := ⟨fun pins s σ H R I q => h.run pins s σ H R I (w _ _ _ q)⟩
def iSeqR (K : PySem.W.Frag) (tl : TE) : TI := fun σ H R => tl σ H fun x H1 => (∃ a, x = .ref a ∧ ((∃ xs, SqL K H1 a xs ∧ R (Itl K a) H1) ∨ ∃ xs, SqT K H1 a xs ∧ R (Itt K a) H1)) ∨ ∃ z, x = .str z ∧ R (Its z) H1
theorem pi_seqR {tg l : Expr} {tl : TE} (hl : PE X l tl) : PI X tg l (iSeqR X.K tl) := by
  refine ⟨fun pins s σ H R I h => ?_⟩
  refine thn (hl.run pins s σ H _ I h) fun v s1 ⟨x, H1, I1, r1, q1⟩ => ?_
  rcases q1 with ⟨a, e, ⟨xs, hq, q⟩ | ⟨xs, hq, q⟩⟩ | ⟨z, e, q⟩
  · subst e
    cases r1
    obtain ⟨its, rv, p, hz⟩ := I1.list hq
    refine wpAny_pyIter_list p.isList ?_
    refine ⟨s1.heap.objs.size, [s1.heap.objs.size], _, _, H1, rfl, I1.kept (t' := s1.toks) fun b o e => Heap.get?_push_of_some _ e, turn_list a _, ⟨_, Heap.get?_push_size _ rfl, rfl, rfl⟩, fun b hb => ?_, q⟩
    have e : b = s1.heap.objs.size := by simpa using hb
    subst e
    exact I1.fpOk (Nat.le_refl _) (I1.hok.fresh (Nat.le_refl _))
  · subst e
    cases r1
    obtain ⟨its, rv, p, hz⟩ := I1.tuple hq
    refine wpAny_pyIter_tuple (show s1.heap.IsTuple a its.toArray from p) ?_
    refine ⟨s1.heap.objs.size, [s1.heap.objs.size], _, _, H1, rfl, I1.kept (t' := s1.toks) fun b o e => Heap.get?_push_of_some _ e, turn_tuple a _, ⟨_, Heap.get?_push_size _ rfl, rfl, rfl⟩, fun b hb => ?_, q⟩
    have e : b = s1.heap.objs.size := by simpa using hb
    subst e
    exact I1.fpOk (Nat.le_refl _) (I1.hok.fresh (Nat.le_refl _))
  · subst e
    obtain ⟨t, rfl⟩ := r1
    cases ha : z.cps.all (· < 128)
    · exact wpAny_pyIter_wide ha (pi_one (tk := s1.toks) I1 _ (turn_str _ z t "str_iterator" (.inr rfl)) ⟨_, Heap.get?_push_size _ rfl, rfl, rfl⟩ q)
    · exact wpAny_pyIter_ascii ha (pi_one (tk := s1.toks) I1 _ (turn_str _ z t "str_ascii_iterator" (.inl rfl)) ⟨_, Heap.get?_push_size _ rfl, rfl, rfl⟩ q)
def seqOf : D → Option (List D)
  | .list ds => some ds
  | .tuple ds => some ds
  | .str z => some (z.cps.toList.map fun c => .str ⟨#[c]⟩)
  | _ => none
section
variable {K : PySem.W.Frag} {mg : Str → Option Value} {F : Hp} {a b : Addr} {ds es : List D} {vs ws : List V}
theorem serves_list (h : Rd F a (.lst vs)) (r : Rps K mg F ds vs) : Serves K mg (Itl K a) F ds := fun F1 H1 i s1 s2 => by
  have q : SqL K H1 a vs := .inl (Rd_mono (s1.trans s2) h)
  refine ⟨fun e => ⟨vs, q, by rw [e, r.len]; exact Nat.le_refl _⟩, fun d e => ?_⟩
  obtain ⟨v, e2, rv⟩ := Rps.get r e
  refine ⟨⟨vs, v, q, e2⟩, fun x H2 y => ?_⟩
  obtain ⟨rfl, y⟩ := y
  have := y vs q
  rw [e2] at this
  cases this
  exact ⟨F1, Grow.refl _ _, Rp.mono s1 _ _ rv⟩
theorem serves_tup (h : SqT K F a vs) (r : Rps K mg F ds vs) : Serves K mg (Itt K a) F ds := fun F1 H1 i s1 s2 => by
  have q : SqT K H1 a vs := SqT_mono (s1.trans s2) h
  refine ⟨fun e => ⟨vs, q, by rw [e, r.len]; exact Nat.le_refl _⟩, fun d e => ?_⟩
  obtain ⟨v, e2, rv⟩ := Rps.get r e
  refine ⟨⟨vs, v, q, e2⟩, fun x H2 y => ?_⟩
  obtain ⟨rfl, y⟩ := y
  have := y vs q
  rw [e2] at this
  cases this
  exact ⟨F1, Grow.refl _ _, Rp.mono s1 _ _ rv⟩
theorem serves_str (z : Str) : Serves K mg (Its z) F (z.cps.toList.map fun c => .str ⟨#[c]⟩) := fun F1 H1 i s1 s2 => by
  refine ⟨fun e => by show z.cps.size ≤ i; rw [e]; simp, fun d e => ?_⟩
  rw [List.getElem?_map] at e
  obtain ⟨c, e1, rfl⟩ := Option.map_eq_some_iff.mp e
  have hlt : i < z.cps.size := by
    have := (List.getElem?_eq_some_iff.mp e1).1
    simpa using this
  refine ⟨hlt, fun x H2 y => ?_⟩
  obtain ⟨rfl, c', e2, rfl⟩ := y
  rw [Array.getElem?_toList] at e1
  rw [e1] at e2
  cases e2
  exact ⟨F1, Grow.refl _ _, rp_str _⟩
theorem serves_range (lo : Int) (n : Nat) : Serves K mg (Itr lo n) F ((List.range n).map fun i => .int (lo + (i : Nat))) := fun F1 H1 i s1 s2 => by
  refine ⟨fun e => by show n ≤ i; rw [e]; simp, fun d e => ?_⟩
  rw [List.getElem?_map] at e
  obtain ⟨c, e1, rfl⟩ := Option.map_eq_some_iff.mp e
  obtain ⟨hlt, hc⟩ := List.getElem?_eq_some_iff.mp e1
  rw [List.length_range] at hlt
  rw [List.getElem_range] at hc
  subst hc
  refine ⟨hlt, fun x H2 y => ?_⟩
  obtain ⟨rfl, rfl⟩ := y
  exact ⟨F1, Grow.refl _ _, rp_int _⟩
theorem serves_rangeC (lo c : Int) (n : Nat) : Serves K mg (Itc lo c n) F ((List.range n).map fun i => .int (lo + (i : Nat) * c)) := fun F1 H1 i s1 s2 => by
  refine ⟨fun e => by show n ≤ i; rw [e]; simp, fun d e => ?_⟩
  rw [List.getElem?_map] at e
  obtain ⟨k, e1, rfl⟩ := Option.map_eq_some_iff.mp e
  obtain ⟨hlt, hc⟩ := List.getElem?_eq_some_iff.mp e1
  rw [List.length_range] at hlt
  rw [List.getElem_range] at hc
  subst hc
  refine ⟨hlt, fun x H2 y => ?_⟩
  obtain ⟨rfl, rfl⟩ := y
  exact ⟨F1, Grow.refl _ _, rp_int _⟩
def zip2 (ds es : List D) : List D := List.zipWith (fun x y => .tuple [x, y]) ds es
theorem zip2_get {ds es : List D} {i : Nat} {d : D} (e : (zip2 ds es)[i]? = some d) : ∃ x y, ds[i]? = some x ∧ es[i]? = some y ∧ d = .tuple [x, y] := by
  unfold zip2 at e
  rw [List.getElem?_zipWith] at e
  cases q1 : ds[i]? with
  | none => simp [q1] at e
  | some x =>
    cases q2 : es[i]? with
    | none => simp [q1, q2] at e
    | some y => simp [q1, q2] at e; exact ⟨x, y, rfl, rfl, e.symm⟩
theorem pair_new {F H : Hp} {x y : V} {dx dy : D} {T : Addr} (s : Same F H) (hT : H T = none) (r1 : Rp K mg F dx x) (r2 : Rp K mg F dy y) : ∃ F2, Grow F H F2 (upd H T (.tup [x, y])) ∧ Rp K mg F2 (.tuple [dx, dy]) (.ref T) := by
  refine ⟨upd F T (.tup [x, y]), Grow.frz s hT (fun ps z => nomatch z), ?_⟩
  have sm : Same F (upd F T (.tup [x, y])) := same_upd (same_none s hT)
  simp only [Rp]
  refine ⟨T, [x, y], rfl, .inl (.inl upd_same), ?_⟩
  simp only [Rps]
  exact ⟨x, [y], rfl, Rp.mono sm _ _ r1, y, [], rfl, Rp.mono sm _ _ r2, rfl⟩
theorem serves_zipL (h : Rd F a (.lst vs)) (r : Rps K mg F ds vs) (h2 : Rd F b (.lst ws)) (r2 : Rps K mg F es ws) : Serves K mg (Itz K a b) F (zip2 ds es) := fun F1 H1 i s1 s2 => by
  have q : SqL K H1 a vs := .inl (Rd_mono (s1.trans s2) h)
  have q2 : SqL K H1 b ws := .inl (Rd_mono (s1.trans s2) h2)
  refine ⟨fun e => ⟨vs, ws, q, q2, ?_⟩, fun d e => ?_⟩
  · have l1 := r.len
    have l2 := r2.len
    unfold zip2 at e
    rw [List.length_zipWith] at e
    omega
  · obtain ⟨x, y, e1, e2, rfl⟩ := zip2_get e
    obtain ⟨v, e3, rv⟩ := Rps.get r e1
    obtain ⟨w, e4, rw'⟩ := Rps.get r2 e2
    refine ⟨⟨vs, ws, v, w, q, q2, e3, e4⟩, fun u H2 yl => ?_⟩
    obtain ⟨T, x', y', rfl, hT, rfl, f1, f2⟩ := yl
    have z1 := f1 vs q
    have z2 := f2 ws q2
    rw [e3] at z1
    rw [e4] at z2
    cases z1
    cases z2
    exact pair_new s2 hT (Rp.mono s1 _ _ rv) (Rp.mono s1 _ _ rw')
theorem serves_zipT (h : SqT K F a vs) (r : Rps K mg F ds vs) (h2 : SqT K F b ws) (r2 : Rps K mg F es ws) : Serves K mg (RZ.ItzT K a b) F (zip2 ds es) := fun F1 H1 i s1 s2 => by
  have q : SqT K H1 a vs := SqT_mono (s1.trans s2) h
  have q2 : SqT K H1 b ws := SqT_mono (s1.trans s2) h2
  refine ⟨fun e => ⟨vs, ws, q, q2, ?_⟩, fun d e => ?_⟩
  · have l1 := r.len
    have l2 := r2.len
    unfold zip2 at e
    rw [List.length_zipWith] at e
    omega
  · obtain ⟨x, y, e1, e2, rfl⟩ := zip2_get e
    obtain ⟨v, e3, rv⟩ := Rps.get r e1
    obtain ⟨w, e4, rw'⟩ := Rps.get r2 e2
    refine ⟨⟨vs, ws, v, w, q, q2, e3, e4⟩, fun u H2 yl => ?_⟩
    obtain ⟨T, x', y', rfl, hT, rfl, f1, f2⟩ := yl
    have z1 := f1 vs q
    have z2 := f2 ws q2
    rw [e3] at z1
    rw [e4] at z2
    cases z1
    cases z2
    exact pair_new s2 hT (Rp.mono s1 _ _ rv) (Rp.mono s1 _ _ rw')
end
def iSeq (m : DE) : DI := fun ev => (m ev).bind fun p => (toVal p.1 p.2).bind fun q => (lift (seqOf q.1)).bind fun ds => .ok (ds, q.2)
def zipD : List D → Option (List D)
  | [.list xs, .list ys] => some (zip2 xs ys)
  | [.tuple xs, .tuple ys] => some (zip2 xs ys)
  | _ => none
def iZip (ms : DA) : DI := fun ev => (ms ev).bind fun p => (vals p.1 p.2).bind fun q => (lift (zipD q.1)).bind fun ds => .ok (ds, q.2)
def rngD1 : List D → Option (List D)
  | [.int j] => if -(2 ^ 62) ≤ j ∧ j < 2 ^ 62 then some ((List.range j.toNat).map fun i => .int (0 + (i : Nat))) else none
  | _ => none
def rngD2 : List D → Option (List D)
  | [.int i, .int j] => if -(2 ^ 62) ≤ i ∧ i < 2 ^ 62 ∧ -(2 ^ 62) ≤ j ∧ j < 2 ^ 62 then some ((List.range (j - i).toNat).map fun k => .int (i + (k : Nat))) else none
  | _ => none
def iRng1 (ms : DA) : DI := fun ev => (ms ev).bind fun p => (lift (gets p.1 p.2)).bind fun ds => (lift (rngD1 ds)).bind fun r => .ok (r, p.2)
def iRng2 (ms : DA) : DI := fun ev => (ms ev).bind fun p => (lift (gets p.1 p.2)).bind fun ds => (lift (rngD2 ds)).bind fun r => .ok (r, p.2)
section
variable {X : Cx} {S : Sx} {W : WX} {a b c e tg : Expr} {es : List Expr} {m : DE} {ms : DA} {pos p : Pos}
theorem sj_seq (he : PE X e (tE X.K X.mg S W m)) : PI X tg e (tIt X.K X.mg S W (iSeq m)) := PI_imp (pi_seqR he) fun σ H R ⟨F, G, P, ev, M, h⟩ => by
  refine ⟨F, G, P, ev, M, h.bind.imp fun rv ev1 F1 H1 _ q1 M1 h3 v r => ?_⟩
  obtain ⟨d, ev2, F2, _, s2, M2, r2, h3⟩ := tM.val M1 r h3
  obtain ⟨ds, e3, h3⟩ := h3.lift
  cases d with
  | list xs =>
    cases e3
    simp only [Rp] at r2
    obtain ⟨a, vs, rfl, q, rs⟩ := r2
    exact .inl ⟨a, rfl, .inl ⟨vs, .inl (Rd_mono M2.fr.fh q), h3 F2 H1 (Same.refl _) M2 _ (serves_list q rs)⟩⟩
  | tuple xs =>
    cases e3
    simp only [Rp] at r2
    obtain ⟨a, vs, rfl, q, rs⟩ := r2
    exact .inl ⟨a, rfl, .inr ⟨vs, SqT_mono M2.fr.fh q, h3 F2 H1 (Same.refl _) M2 _ (serves_tup q rs)⟩⟩
  | str z =>
    cases e3
    simp only [Rp] at r2
    exact .inr ⟨z, r2, h3 F2 H1 (Same.refl _) M2 _ (serves_str z)⟩
  | _ => cases e3
theorem Rps.two {K : PySem.W.Frag} {mg : Str → Option Value} {F : Hp} {x y : D} {vs : List V} (h : Rps K mg F [x, y] vs) : ∃ v w, vs = [v, w] ∧ Rp K mg F x v ∧ Rp K mg F y w := by
  simp only [Rps] at h
  obtain ⟨v, r, rfl, h1, w, r2, rfl, h2, rfl⟩ := h
  exact ⟨v, w, rfl, h1, h2⟩
theorem sj_zip {tpos : Pos} {elts : List Expr} {kk : Nat} (hg : Gl X "zip") (hm : X.mg "zip" = none) (ha : PA X [a, b] (tA X.K X.mg S W ms)) (hs : starEach [a, b] X.env = (false, eval a X.env) :: starEach [b] X.env := by rfl) (hpl : (backTo pos (starEach [b] X.env)).any (·.1) = false := by rfl) :
    PI X (.Tuple elts kk tpos) (.Call (.Name "zip" p) [a, b] [] pos) (tIt X.K X.mg S W (iZip ms)) := PI_imp (RZ.pi_zipA hg hm ha hs hpl) fun σ H R ⟨F, G, P, ev, M, h⟩ => by
  refine ⟨F, G, P, ev, M, h.bind.imp fun rs ev1 F1 H1 _ q1 M1 h3 vs r => ?_⟩
  obtain ⟨ds, ev2, F2, _, s2, M2, r2, h3⟩ := tM.vals M1 r h3
  obtain ⟨zs, e3, h3⟩ := h3.lift
  replace e3 : zipD ds = some zs := e3
  unfold zipD at e3
  split at e3
  · cases e3
    obtain ⟨v, w, rfl, x1, x2⟩ := r2.two
    simp only [Rp] at x1 x2
    obtain ⟨a1, vs1, rfl, q1, y1⟩ := x1
    obtain ⟨a2, vs2, rfl, q2, y2⟩ := x2
    exact ⟨a1, a2, vs1, vs2, rfl, .inl ⟨.inl (Rd_mono M2.fr.fh q1), .inl (Rd_mono M2.fr.fh q2), h3 F2 H1 (Same.refl _) M2 _ (serves_zipL q1 y1 q2 y2)⟩⟩
  · cases e3
    obtain ⟨v, w, rfl, x1, x2⟩ := r2.two
    simp only [Rp] at x1 x2
    obtain ⟨a1, vs1, rfl, q1, y1⟩ := x1
    obtain ⟨a2, vs2, rfl, q2, y2⟩ := x2
    exact ⟨a1, a2, vs1, vs2, rfl, .inr ⟨SqT_mono M2.fr.fh q1, SqT_mono M2.fr.fh q2, h3 F2 H1 (Same.refl _) M2 _ (serves_zipT q1 y1 q2 y2)⟩⟩
  · cases e3
theorem sj_rng1 (hg : Gl X "range") (hm : X.mg "range" = none) (ha : PA X [a] (tA X.K X.mg S W ms)) (hs : starEach [a] X.env = [(false, eval a X.env)] := by rfl) : PI X tg (.Call (.Name "range" p) [a] [] pos) (tIt X.K X.mg S W (iRng1 ms)) := PI_imp (pi_range1 hg hm ha hs) fun σ H R ⟨F, G, P, ev, M, h⟩ => by
  refine ⟨F, G, P, ev, M, h.bind.imp fun rs ev1 F1 H1 _ q1 M1 h3 vs r => ?_⟩
  obtain ⟨ds, e2, h3⟩ := h3.lift
  obtain ⟨zs, e3, h3⟩ := h3.lift
  obtain ⟨l, q⟩ := gets_ok M1 r e2
  unfold rngD1 at e3
  split at e3
  · split at e3
    · rename_i hh
      cases e3
      obtain ⟨x, rfl, qx⟩ := rq1 l q
      obtain rfl := qx.int
      exact ⟨_, rfl, hh.1, hh.2, h3 F1 H1 (Same.refl _) M1 _ (serves_range _ _)⟩
    · cases e3
  · cases e3
theorem sj_rng2 (hg : Gl X "range") (hm : X.mg "range" = none) (ha : PA X [a, b] (tA X.K X.mg S W ms)) (hs : starEach [a, b] X.env = [(false, eval a X.env), (false, eval b X.env)] := by rfl) (hs2 : starEach [b] X.env = [(false, eval b X.env)] := by rfl) : PI X tg (.Call (.Name "range" p) [a, b] [] pos) (tIt X.K X.mg S W (iRng2 ms)) := PI_imp (pi_range2 hg hm ha hs hs2) fun σ H R ⟨F, G, P, ev, M, h⟩ => by
  refine ⟨F, G, P, ev, M, h.bind.imp fun rs ev1 F1 H1 _ q1 M1 h3 vs r => ?_⟩
  obtain ⟨ds, e2, h3⟩ := h3.lift
  obtain ⟨zs, e3, h3⟩ := h3.lift
  obtain ⟨l, q⟩ := gets_ok M1 r e2
  unfold rngD2 at e3
  split at e3
  · split at e3
    · rename_i hh
      cases e3
      obtain ⟨x, y, rfl, qx, qy⟩ := rq2 l q
      obtain rfl := qx.int
      obtain rfl := qy.int
      exact ⟨_, _, rfl, hh, h3 F1 H1 (Same.refl _) M1 _ (serves_range _ _)⟩
    · cases e3
  · cases e3

/-! ### for -/
def forL (b : D → Ev → Option Ev) (body : DS) : List D → Ev → Res (Fl × Ev)
  | [], ev => .ok (.nx, ev)
  | d :: ds, ev => (lift (b d ev)).bind fun ev1 => (body ev1).bind fun p => match p.1 with
    | .nx => forL b body ds p.2
    | .ct => forL b body ds p.2
    | .bk => .ok (.nx, p.2)
    | f => .ok (f, p.2)
def sFor (it : DI) (b : D → Ev → Option Ev) (body : DS) : DS := fun ev => (it ev).bind fun p => forL b body p.1 p.2
variable {bd : D → Ev → Option Ev} {sb : DS} {body : List Stmt} {it : DI}
theorem sx_for {iter : Expr} (hp : PassesOwn (model X.prog X.w) X.A X.env X.xe) (hc : X.calm = true) (hi : PI X tg iter (tIt X.K X.mg S W it)) (hg : PG X tg (tG X.K X.mg S bd is)) (hb : PSs X body (tS X.K X.mg S W sb)) (hs : ∀ x, foldedSetIterable iter X.env x = pure x := by intro _; rfl) :
    PS X (.For tg iter body [] pos) (tS X.K X.mg S W (sFor it bd sb)) := (ps_for hp hc hi hg hb hs).imp fun Dn σ H ⟨F, G, P, ev, M, h⟩ => by
  refine ⟨F, G, P, ev, M, h.bind.imp fun ds ev1 F1 H1 _ q1 M1 h1 J sv => ?_⟩
  refine ⟨fun i m σ H => ∃ F ev, Same F1 F ∧ Sim X.K X.mg S F G P H ev σ ∧ i ≤ ds.length ∧ m = ds.length - i ∧ tN X.K X.mg S W G P F (forL bd sb (ds.drop i) ev) (postS X.K X.mg S G Dn), ⟨ds.length, F1, ev1, Same.refl _, M1, Nat.zero_le _, rfl, h1⟩, ?_⟩
  rintro i m σ2 H2 ⟨F2, ev2, s2, M2, hi, rfl, h2⟩
  obtain ⟨st, gg⟩ := sv F2 H2 i s2 M2.fr.fh
  by_cases hlt : i < ds.length
  · have hd : ds[i]? = some ds[i] := List.getElem?_eq_getElem hlt
    obtain ⟨g1, g2⟩ := gg _ hd
    rw [List.drop_eq_getElem_cons hlt] at h2
    unfold forL at h2
    obtain ⟨ev3, e3, h2⟩ := h2.lift
    refine .inr ⟨g1, fun σ H => ∃ F ev, Same F1 F ∧ Sim X.K X.mg S F G P H ev σ ∧ tN X.K X.mg S W G P F (forL bd sb (ds.drop (i + 1)) ev) (postS X.K X.mg S G Dn), fun σ' H' ⟨F', ev', a1, a2, a3⟩ => ⟨ds.length - (i + 1), by omega, F', ev', a1, a2, by omega, rfl, a3⟩, fun x H' yl => ?_⟩
    obtain ⟨F3, gr, rx⟩ := g2 x H' yl
    have M3 := M2.grow gr
    refine ⟨F3, G, P, ev2, _, ev3, M3, rx, e3, fun σ' _ M' => ⟨F3, G, P, ev3, M', ?_⟩⟩
    have h4 := tN.mono gr.f h2
    cases q : sb ev3 with
    | err c => rw [q] at h4; exact h4
    | stuck => rw [q] at h4; exact h4
    | ok p =>
      obtain ⟨fl, ev4⟩ := p
      rw [q] at h4
      simp only [Res.bind_ok] at h4
      intro F4 H4 σ4 s4 M4
      cases fl with
      | nx => exact ⟨F4, ev4, (s2.trans gr.f).trans s4, M4, tN.mono s4 h4⟩
      | ct => exact ⟨F4, ev4, (s2.trans gr.f).trans s4, M4, tN.mono s4 h4⟩
      | bk => exact h4 F4 H4 σ4 s4 M4
      | rt d => exact h4 F4 H4 σ4 s4 M4
      | rto d => exact h4 F4 H4 σ4 s4 M4
  · have e : i = ds.length := by omega
    subst e
    rw [List.drop_length] at h2
    exact .inl ⟨st rfl, h2 F2 H2 σ2 (Same.refl _) M2⟩

/-! ### while -/
def whileN (t : DT) (body : DS) : Nat → Ev → Res (Fl × Ev)
  | 0, _ => .stuck
  | n + 1, ev => (t ev).bind fun p => bif p.1 then ((body p.2).bind fun q => match q.1 with
    | .nx => whileN t body n q.2
    | .ct => whileN t body n q.2
    | .bk => .ok (.nx, q.2)
    | f => .ok (f, q.2)) else .ok (.nx, p.2)
def sWhile (n : Nat) (t : DT) (body : DS) : DS := whileN t body n
theorem sx_while (n : Nat) {ta : DT} (hp : PassesOwn (model X.prog X.w) X.A X.env X.xe) (hc : PT X c (tT X.K X.mg S W ta)) (hb : PSs X body (tS X.K X.mg S W sb)) : PS X (.While c body [] pos) (tS X.K X.mg S W (sWhile n ta sb)) := (ps_while hp hc hb).imp fun Dn σ H ⟨F, G, P, ev, M, h⟩ => by
  refine ⟨fun m σ H => ∃ F ev, Sim X.K X.mg S F G P H ev σ ∧ tN X.K X.mg S W G P F (whileN ta sb m ev) (postS X.K X.mg S G Dn), ⟨n, F, ev, M, h⟩, ?_⟩
  rintro m σ2 H2 ⟨F2, ev2, M2, h2⟩
  cases m with
  | zero => exact False.elim h2
  | succ m =>
    unfold whileN at h2
    refine ⟨F2, G, P, ev2, M2, h2.bind.imp fun b ev3 F3 H3 _ s3 M3 h3 => ?_⟩
    cases b with
    | false => exact h3 F3 H3 σ2 (Same.refl _) M3
    | true =>
      rw [if_pos rfl]
      refine ⟨fun σ H => ∃ F ev, Sim X.K X.mg S F G P H ev σ ∧ tN X.K X.mg S W G P F (whileN ta sb m ev) (postS X.K X.mg S G Dn), fun σ' H' q => ⟨m, Nat.lt_succ_self _, q⟩, F3, G, P, ev3, M3, ?_⟩
      simp only [cond_true] at h3
      cases q : sb ev3 with
      | err c => rw [q] at h3; exact h3
      | stuck => rw [q] at h3; exact h3
      | ok p =>
        obtain ⟨fl, ev4⟩ := p
        rw [q] at h3
        simp only [Res.bind_ok] at h3
        intro F4 H4 σ4 s4 M4
        cases fl with
        | nx => exact ⟨F4, ev4, M4, tN.mono s4 h3⟩
        | ct => exact ⟨F4, ev4, M4, tN.mono s4 h3⟩
        | bk => exact h3 F4 H4 σ4 s4 M4
        | rt d => exact h3 F4 H4 σ4 s4 M4
        | rto d => exact h3 F4 H4 σ4 s4 M4
end
end
end TL

set_option Elab.async false
set_option linter.all false
set_option maxRecDepth 100000
namespace TL
open PySem PySem.Spec PyProof.Rows L2

/-! ### comprehensions -/
def wipeE (ev : Ev) : List Nat → Ev
  | [] => ev
  | v :: vs => (wipeE ev vs).set v none
def backE (old new : Ev) : List Nat → Ev
  | [] => new
  | v :: vs => (backE old new vs).set v (old[v]?).join
def noErr {α : Type} : Res α → Res α
  | .ok a => .ok a
  | _ => .stuck
@[simp] theorem noErr_ok {α : Type} (a : α) : noErr (Res.ok a) = .ok a := rfl
theorem Res.bind_assoc {α β γ : Type} (x : Res α) (f : α → Res β) (g : β → Res γ) : (x.bind f).bind g = x.bind fun a => (f a).bind g := by cases x <;> rfl
def tYesD : DT := fun ev => .ok (true, ev)
def compL (b : D → Ev → Option Ev) (t : DT) (m : DE) (vs : List Nat) : List D → List D → Ev → Res (List D × Ev)
  | [], acc, ev => .ok (acc, ev)
  | d :: ds, acc, ev => (lift (b d ev)).bind fun ev1 => (noErr (t ev1)).bind fun p => bif p.1 then (noErr (m p.2)).bind fun q => (toVal q.1 q.2).bind fun r => compL b t m vs ds (acc ++ [r.1]) (wipeE r.2 vs) else compL b t m vs ds acc (wipeE p.2 vs)
def oComp (it : DI) (vs : List Nat) (b : D → Ev → Option Ev) (t : DT) (m : DE) : DO := fun ev => (it ev).bind fun p => if p.1.length ≤ sizeLine then (compL b t m vs p.1 [] (wipeE p.2 vs)).bind fun q => .ok (.list q.1, backE p.2 q.2 vs) else .stuck
section
variable [WC] {K : PySem.W.Frag} {mg : Str → Option Value} {S : Sx} {F F' G H H' : Hp} {P : Nat → Option Addr} {ev ev' : Ev} {σ σ' : L2.St}
theorem wipe_get {σ : L2.St} {i : Nat} : ∀ {vs : List Nat}, i ∉ vs → (wipe σ vs)[i]? = σ[i]?
  | [], _ => rfl
  | v :: vs, h => by
    rw [List.mem_cons, not_or] at h
    show ((wipe σ vs).set v none)[i]? = _
    rw [List.getElem?_set_ne (Ne.symm h.1), wipe_get h.2]
theorem wipeE_len : ∀ {vs : List Nat}, (wipeE ev vs).length = ev.length
  | [] => rfl
  | v :: vs => by show ((wipeE ev vs).set v none).length = _; rw [List.length_set, wipeE_len]
theorem wipeE_some {i : Nat} {d : D} : ∀ {vs : List Nat}, (wipeE ev vs)[i]? = some (some d) → i ∉ vs ∧ ev[i]? = some (some d)
  | [], h => ⟨by simp, h⟩
  | v :: vs, h => by
    obtain ⟨h1, h2⟩ := set_none_some (show ((wipeE ev vs).set v none)[i]? = some (some d) from h)
    obtain ⟨h3, h4⟩ := wipeE_some h2
    exact ⟨by rw [List.mem_cons, not_or]; exact ⟨h1, h3⟩, h4⟩
theorem agree_wipe : ∀ {vs : List Nat} {σ σ' : L2.St}, Agree vs σ σ' → wipe σ' vs = wipe σ vs := fun {vs σ σ'} a => by
  have hl : (wipe σ' vs).length = (wipe σ vs).length := by rw [wipe_length, wipe_length]; exact a.1
  have hin : ∀ {τ : L2.St} {ws : List Nat} {i : Nat}, i ∈ ws → i < τ.length → (wipe τ ws)[i]? = some none := by
    intro τ ws
    induction ws with
    | nil => intro i h; simp at h
    | cons v ws ih =>
      intro i h hlt
      show ((wipe τ ws).set v none)[i]? = some none
      by_cases e : i = v
      · subst e; exact set_same (by rw [wipe_length]; exact hlt)
      · rw [List.getElem?_set_ne (Ne.symm e)]
        exact ih ((List.mem_cons.mp h).resolve_left e) hlt
  apply List.ext_getElem?
  intro i
  have a1 := a.1
  by_cases hi : i ∈ vs
  · by_cases hlt : i < σ.length
    · rw [hin hi hlt, hin hi (by omega)]
    · rw [List.getElem?_eq_none (by rw [wipe_length]; omega), List.getElem?_eq_none (by rw [wipe_length]; omega)]
  · rw [wipe_get hi, wipe_get hi, a.2 i hi]
theorem wipe_wipe (σ : L2.St) (vs : List Nat) : wipe (wipe σ vs) vs = wipe σ vs := agree_wipe ⟨wipe_length _ _, fun j hj => wipe_get hj⟩
/-- the slots of the block's own names are forgotten -/
theorem Sim.wiped (M : Sim K mg S F G P H ev σ) {vs : List Nat} (hv : ∀ v ∈ vs, S.own v = false ∧ S.io v = false) (hw : wipe σ' vs = wipe σ vs) (hl : σ'.length = σ.length) : Sim K mg S F G P H (wipeE ev vs) σ' where
  fr := M.fr
  len := by rw [wipeE_len, hl]; exact M.len
  sl := fun i d h e => by
    obtain ⟨h1, h2⟩ := wipeE_some e
    obtain ⟨v, e1, r⟩ := M.sl i d h h2
    refine ⟨v, ?_, r⟩
    rw [← wipe_get h1, hw, wipe_get h1]; exact e1
  so := fun i d h e => by
    obtain ⟨h1, h2⟩ := wipeE_some e
    obtain ⟨a, e1, r⟩ := M.so i d h h2
    refine ⟨a, ?_, r⟩
    rw [← wipe_get h1, hw, wipe_get h1]; exact e1
  sp := fun i j d e' a hi hj hn q1 q2 q3 q4 => by
    obtain ⟨a1, a2⟩ := wipeE_some q1
    obtain ⟨b1, b2⟩ := wipeE_some q2
    rw [← wipe_get a1, hw, wipe_get a1] at q3
    rw [← wipe_get b1, hw, wipe_get b1] at q4
    exact M.sp i j d e' a hi hj hn a2 b2 q3 q4
  pn := fun i a e => by
    obtain ⟨h1, h2⟩ := M.pn i a e
    have h3 : i ∉ vs := fun z => by rw [(hv i z).2] at h1; cases h1
    exact ⟨h1, by rw [← wipe_get h3, hw, wipe_get h3]; exact h2⟩
theorem backE_len {old new : Ev} : ∀ {vs : List Nat}, (backE old new vs).length = new.length
  | [] => rfl
  | v :: vs => by show ((backE old new vs).set v _).length = _; rw [List.length_set, backE_len]
theorem backE_some {old new : Ev} {i : Nat} {d : D} : ∀ {vs : List Nat}, (backE old new vs)[i]? = some (some d) → (i ∈ vs ∧ old[i]? = some (some d)) ∨ (i ∉ vs ∧ new[i]? = some (some d))
  | [], h => .inr ⟨by simp, h⟩
  | v :: vs, h => by
    rcases set_get (show ((backE old new vs).set v (old[v]?).join)[i]? = some (some d) from h) with ⟨rfl, e⟩ | ⟨hn, e⟩
    · exact .inl ⟨List.mem_cons_self, join_some e.symm⟩
    · rcases backE_some e with ⟨a, b⟩ | ⟨a, b⟩
      · exact .inl ⟨List.mem_cons_of_mem _ a, b⟩
      · exact .inr ⟨by rw [List.mem_cons, not_or]; exact ⟨hn, a⟩, b⟩
/-- behind the comprehension the block's names are as they were -/
theorem Sim.back (M0 : Sim K mg S F G P H ev σ) (s : Same F F') (M : Sim K mg S F' G P H' ev' (wipe σ vs)) (hv : ∀ v ∈ vs, S.own v = false ∧ S.io v = false) : Sim K mg S F' G P H' (backE ev ev' vs) σ where
  fr := M.fr
  len := by rw [backE_len, M.len, wipe_length]
  sl := fun i d h e => by
    rcases backE_some e with ⟨h1, h2⟩ | ⟨h1, h2⟩
    · obtain ⟨v, e1, r⟩ := M0.sl i d h h2
      exact ⟨v, e1, Rp.mono s _ _ r⟩
    · obtain ⟨v, e1, r⟩ := M.sl i d h h2
      rw [wipe_get h1] at e1
      exact ⟨v, e1, r⟩
  so := fun i d h e => by
    rcases backE_some e with ⟨h1, h2⟩ | ⟨h1, h2⟩
    · rw [(hv i h1).1] at h; cases h
    · obtain ⟨a, e1, r⟩ := M.so i d h h2
      rw [wipe_get h1] at e1
      exact ⟨a, e1, r⟩
  sp := fun i j d e' a hi hj hn q1 q2 q3 q4 => by
    rcases backE_some q1 with ⟨h1, h2⟩ | ⟨h1, h2⟩
    · rw [(hv i h1).1] at hi; cases hi
    · rcases backE_some q2 with ⟨g1, g2⟩ | ⟨g1, g2⟩
      · rw [(hv j g1).1] at hj; cases hj
      · rw [← wipe_get h1] at q3
        rw [← wipe_get g1] at q4
        exact M.sp i j d e' a hi hj hn h2 g2 q3 q4
  pn := M0.pn
end
theorem upd_upd' {H : Hp} {a : Addr} {o u : HO} : upd (upd H a o) a u = upd H a u := upd_upd
/-- an object kept as the caller's is written -/
theorem Sim.rewriteG [WC] {K : PySem.W.Frag} {mg : Str → Option Value} {S : Sx} {F G H : Hp} {P : Nat → Option Addr} {ev : Ev} {σ : L2.St} {a : Addr} {vs vs' : List V} (M : Sim K mg S F (upd G a (.lst vs)) P H ev σ) : Sim K mg S F (upd G a (.lst vs')) P (upd H a (.lst vs')) ev σ := by
  have hH : H a = some (.lst vs) := M.fr.gh _ _ upd_same
  have hF : F a = none := by
    cases q : F a with
    | none => rfl
    | some u => have := M.fr.gf a u q; rw [upd_same] at this; cases this
  refine ⟨⟨fun b u e => ?_, fun b u e => ?_, fun b u e => ?_, M.fr.nt, fun hT b ps e => ?_, Tabs_write M.fr.tb hH (.inl ⟨_, rfl⟩)⟩, M.len, M.sl, fun i d h e => ?_, M.sp, M.pn⟩
  · rw [upd_ne (fun z => by rw [z, hF] at e; cases e)]; exact M.fr.fh _ _ e
  · by_cases hb : b = a
    · subst hb; rw [upd_same] at e ⊢; exact e
    · rw [upd_ne hb] at e ⊢; exact M.fr.gh b u (by rw [upd_ne hb]; exact e)
  · have hb : b ≠ a := fun z => by rw [z, hF] at e; cases e
    have := M.fr.gf b u e
    rw [upd_ne hb] at this ⊢
    exact this
  · by_cases hb : b = a
    · subst hb; rw [upd_same] at e; cases e
    · rw [upd_ne hb] at e; exact M.fr.gt hT b ps (by rw [upd_ne hb]; exact e)
  · obtain ⟨b, e1, o, f0, g0⟩ := M.so i d h e
    have hb : b ≠ a := fun z => by rw [z, upd_same] at g0; cases g0
    refine ⟨b, e1, ?_, f0, by rw [upd_ne hb] at g0 ⊢; exact g0⟩
    exact o.at (Same.refl _) fun u y1 => by rw [upd_ne hb]; exact y1
theorem tM.cross {α β : Type} [WC] {K : PySem.W.Frag} {mg : Str → Option Value} {S : Sx} {W W' : WX} {F G G' : Hp} {P P' : Nat → Option Addr} {σ σ' : L2.St} {r : Res (α × Ev)} {k : α × Ev → Res (β × Ev)} {post : β → Ev → Hp → Hp → Prop} {post2 : α → Ev → Hp → Hp → Prop} (h : tM K mg S W G P σ F ((noErr r).bind k) post)
    (hp : ∀ a ev' F' H', Same F F' → Sim K mg S F' G' P' H' ev' σ' → tM K mg S W G P σ F' (k (a, ev')) post → post2 a ev' F' H') : tM K mg S W' G' P' σ' F r post2 := by
  cases r with
  | ok p => exact fun F' H' s M => hp _ _ F' H' s M (tM.mono s (r := k p) h)
  | err c => exact False.elim h
  | stuck => exact False.elim h
def tTs [WC] (K : PySem.W.Frag) (mg : Str → Option Value) (S : Sx) (W : WX) (m : DT) : TT := tT K mg S W m
abbrev W0 : WX := fun _ _ _ _ => False
section
variable [WC] {X : Cx} {S : Sx} {W : WX} {elt tg iter c : Expr} {ifs : List Expr} {m : DE} {t : DT} {pos : Pos} {it : DI} {bd : D → Ev → Option Ev} {is : List Nat} {own : List (Str × Nat)} {scope : Scope}
theorem sc_nil : PTs X [] (tT X.K X.mg S W tYesD) := ⟨fun pins s σ H Q I h => pts_nil.run pins s σ H Q I (by obtain ⟨F, G, P, ev, M, h⟩ := h; exact h F H (Same.refl _) M)⟩
theorem sc_one (h : PT X c (tT X.K X.mg S W t)) : PTs X [c] (tT X.K X.mg S W t) := pts_one h
theorem core_comp {σ : L2.St} {H : Hp} {Q : VK} (hv : ∀ v ∈ own.map (·.2), S.own v = false ∧ S.io v = false) (hsub : ∀ v ∈ is, v ∈ own.map (·.2)) (h : tO X.K X.mg S W (oComp it (own.map (·.2)) bd t m) σ H Q) : tLc (tIt X.K X.mg S W it) (tG X.K X.mg S bd is) (tT X.K X.mg S W0 t) (tE X.K X.mg S W0 m) (own.map (·.2)) σ H Q := by
  generalize hvs : own.map (·.2) = vs at *
  obtain ⟨F, G, P, ev, M, h⟩ := h
  refine ⟨F, G, P, ev, M, h.bind.imp fun ds ev1 F1 H1 _ q1 M1 h1 J sv Dl hD => ?_⟩
  obtain ⟨hlen, h1⟩ := h1.cond
  replace hlen : ds.length ≤ sizeLine := hlen
  have fD := same_none M1.fr.fh hD
  have gD := same_none M1.fr.gh hD
  have hw0 : wipe (wipe σ vs) vs = wipe σ vs := wipe_wipe σ vs
  -- the state within, the new list kept as the caller's
  have start : Sim X.K X.mg S F1 (upd G Dl (.lst [])) P (upd H1 Dl (.lst [])) (wipeE ev1 vs) (wipe σ vs) := by
    have a1 := M1.grow (F' := F1) (Grow.keep (same_upd (o := .lst []) hD))
    have a2 := a1.keepG (d := .list []) (a := Dl) (o := .lst []) ⟨[], upd_same, by simp only [Rps]⟩ ⟨fD, gD, fun i d ho e z => (FreshAt.of M1 hD).2.2 i d ho e z⟩ upd_same
    exact a2.wiped hv hw0 (wipe_length _ _)
  refine ⟨fun i k H => ∃ F ev ads acc, Same F1 F ∧ Sim X.K X.mg S F (upd G Dl (.lst acc)) P H ev (wipe σ vs) ∧ Rps X.K X.mg F ads acc ∧ i ≤ ds.length ∧ acc.length ≤ i ∧ k = ds.length - i ∧ tM X.K X.mg S W G P σ F ((compL bd t m vs (ds.drop i) ads ev).bind fun q => .ok (PyData.list q.1, backE ev1 q.2 vs)) (fun d ev' F' H' => ∀ a, OwnD X.K X.mg F' H' d a → FreshAt S ev' σ F' G a → Q (.ref a) H'),
    ⟨ds.length, F1, _, [], [], Same.refl _, start, by simp only [Rps], Nat.zero_le _, Nat.le_refl _, rfl, ?_⟩, ?_⟩
  · exact h1
  rintro i k H2 ⟨F2, ev2, ads, acc, s2, M2, racc, hi, hacc, rfl, h2⟩
  obtain ⟨st, gg⟩ := sv F2 H2 i s2 M2.fr.fh
  have sG : ∀ ac, Same G (upd G Dl (.lst ac)) := fun ac => same_upd gD
  by_cases hlt : i < ds.length
  · have hd : ds[i]? = some ds[i] := List.getElem?_eq_getElem hlt
    obtain ⟨g1, g2⟩ := gg _ hd
    rw [List.drop_eq_getElem_cons hlt] at h2
    unfold compL at h2
    obtain ⟨ev3, e3⟩ : ∃ ev3, bd ds[i] ev2 = some ev3 := by
      cases q : bd ds[i] ev2 with
      | some x => exact ⟨x, rfl⟩
      | none => rw [q] at h2; exact False.elim h2
    rw [e3] at h2
    simp only [lift_some, Res.bind_ok] at h2
    refine .inr ⟨g1, fun H => ∃ F ev ads acc, Same F1 F ∧ Sim X.K X.mg S F (upd G Dl (.lst acc)) P H ev (wipe σ vs) ∧ Rps X.K X.mg F ads acc ∧ acc.length ≤ i + 1 ∧ tM X.K X.mg S W G P σ F ((compL bd t m vs (ds.drop (i + 1)) ads ev).bind fun q => .ok (PyData.list q.1, backE ev1 q.2 vs)) (fun d ev' F' H' => ∀ a, OwnD X.K X.mg F' H' d a → FreshAt S ev' σ F' G a → Q (.ref a) H'), fun H' ⟨F', ev', ads', acc', a1, a2, a3, a4, a5⟩ => ⟨ds.length - (i + 1), by omega, F', ev', ads', acc', a1, a2, a3, by omega, a4, rfl, a5⟩, fun x H' yl => ?_⟩
    obtain ⟨F3, gr, rx⟩ := g2 x H' yl
    have M3 := M2.grow gr
    refine ⟨F3, upd G Dl (.lst acc), P, ev2, _, ev3, M3, rx, e3, fun σ2 ag M4 => ?_⟩
    have ag' : Agree vs (wipe σ vs) σ2 := ⟨ag.1, fun j hj => ag.2 j fun z => hj (hsub j z)⟩
    have hw2 : wipe σ2 vs = wipe σ vs := by rw [agree_wipe ag', hw0]
    refine ⟨hw2, ?_⟩
    rw [Res.bind_assoc] at h2
    refine ⟨F3, upd G Dl (.lst acc), P, ev3, M4, tM.cross (tM.mono gr.f h2) fun b ev4 F4 H4 s4 M5 h4 => ?_⟩
    have racc4 : Rps X.K X.mg F4 ads acc := Rps.mono (gr.f.trans s4) _ _ racc
    have s14 := (s2.trans gr.f).trans s4
    have hw3 : wipe (wipe σ vs) vs = wipe σ2 vs := by rw [hw0, hw2]
    have hl3 : (wipe σ vs).length = σ2.length := ag.1.symm
    cases b with
    | false => exact ⟨F4, wipeE ev4 vs, ads, acc, s14, M5.wiped hv hw3 hl3, racc4, by omega, h4⟩
    | true =>
      simp only [cond_true] at h4
      rw [Res.bind_assoc] at h4
      refine ⟨F4, upd G Dl (.lst acc), P, ev4, M5, tM.cross h4 fun rv ev5 F5 H5 s5 M6 h5 y ry => ?_⟩
      rw [Res.bind_assoc] at h5
      cases q : toVal rv ev5 with
      | err c => exact absurd q toVal_ne_err
      | stuck => rw [q] at h5; exact False.elim h5
      | ok p =>
        obtain ⟨d, ev6⟩ := p
        rw [q] at h5
        simp only [Res.bind_ok] at h5
        obtain ⟨F6, s6, M7, r7⟩ := toVal_ok M6 ry q
        refine ⟨acc, M7.fr.gh _ _ upd_same, by omega, F6, wipeE ev6 vs, ads ++ [d], acc ++ [y], (s14.trans s5).trans s6, (M7.rewriteG (vs' := acc ++ [y])).wiped hv hw3 hl3, (Rps.mono (s5.trans s6) _ _ racc4).append (Rps.one r7), by rw [List.length_append]; simp; omega, tM.mono s6 h5⟩
  · have e : i = ds.length := by omega
    subst e
    rw [List.drop_length] at h2
    refine .inl ⟨st rfl, ?_⟩
    have hH : H2 Dl = some (.lst acc) := M2.fr.gh _ _ upd_same
    have f2 : F2 Dl = none := by
      cases q : F2 Dl with
      | none => rfl
      | some u => have := M2.fr.gf Dl u q; rw [upd_same] at this; cases this
    have M5 := M2.lessG (sG acc)
    refine h2 F2 H2 (Same.refl _) (Sim.back M1 s2 M5 hv) Dl ⟨acc, hH, racc⟩ ⟨f2, gD, fun j d ho e z => ?_⟩
    rcases backE_some e with ⟨b1, _⟩ | ⟨b1, b2⟩
    · rw [(hv j b1).1] at ho; cases ho
    · rw [← wipe_get b1] at z
      obtain ⟨a, y1, y2, y3, y4⟩ := M2.so j d ho b2
      rw [z] at y1
      cases y1
      rw [upd_same] at y4
      cases y4
theorem so_comp (hc : X.calm = true) (hN : X.N.Nodup) (hi : PI X tg iter (tIt X.K X.mg S W it)) (ok : BlkOk X.N X.env.scope scope own)
    (hg : ∀ (s : Shared) (H : Hp) (C : Addr) (cl : List (Str × Addr)) (fp : List Addr), PG (X.blk s H scope (compEnvC scope cl C X.env) fp) tg (tG X.K X.mg S bd is)) (ht : ∀ (s : Shared) (H : Hp) (C : Addr) (cl : List (Str × Addr)) (fp : List Addr), PTs (X.blk s H scope (compEnvC scope cl C X.env) fp) ifs (tT X.K X.mg S W0 t))
    (he : ∀ (s : Shared) (H : Hp) (C : Addr) (cl : List (Str × Addr)) (fp : List Addr), PE (X.blk s H scope (compEnvC scope cl C X.env) fp) elt (tE X.K X.mg S W0 m)) (hv : ∀ v ∈ own.map (·.2), S.own v = false ∧ S.io v = false := by decide) (hsub : ∀ v ∈ is, v ∈ own.map (·.2) := by decide) (hs : ∀ x, foldedSetIterable iter X.env x = pure x := by intro _; rfl) :
    PE X (.ListComp elt [⟨tg, iter, ifs, 0⟩] scope pos) (tO X.K X.mg S W (oComp it (own.map (·.2)) bd t m)) := (pe_lc hc hN hi ok hg ht he hs).imp fun _ _ _ h => core_comp hv hsub h
/-- y = [..], y a plain local -/
theorem sx_comp (i : Nat) {y : Str} {py spos : Pos} (hc : X.calm = true) (hN : X.N.Nodup) (hi : PI X tg iter (tIt X.K X.mg S W it)) (ok : BlkOk X.N X.env.scope scope own)
    (hg : ∀ (s : Shared) (H : Hp) (C : Addr) (cl : List (Str × Addr)) (fp : List Addr), PG (X.blk s H scope (compEnvC scope cl C X.env) fp) tg (tG X.K X.mg S bd is)) (ht : ∀ (s : Shared) (H : Hp) (C : Addr) (cl : List (Str × Addr)) (fp : List Addr), PTs (X.blk s H scope (compEnvC scope cl C X.env) fp) ifs (tT X.K X.mg S W0 t))
    (he : ∀ (s : Shared) (H : Hp) (C : Addr) (cl : List (Str × Addr)) (fp : List Addr), PE (X.blk s H scope (compEnvC scope cl C X.env) fp) elt (tE X.K X.mg S W0 m)) (hv : ∀ v ∈ own.map (·.2), S.own v = false ∧ S.io v = false := by decide) (hsub : ∀ v ∈ is, v ∈ own.map (·.2) := by decide) (h1 : S.own i = false := by rfl) (h2 : S.io i = false := by rfl)
    (hy : X.N[i]? = some y := by rfl) (hyl : X.env.scope.names.lookup y = some .local := by rfl) (hsw : swapsWith (.ListComp elt [⟨tg, iter, ifs, 0⟩] scope pos) (some (.Name y py)) spos.line X.env = pure true := by exact sw_true rfl rfl rfl (by decide +kernel)) (hs : ∀ x, foldedSetIterable iter X.env x = pure x := by intro _; rfl) :
    PS X (.Assign [.Name y py] (.ListComp elt [⟨tg, iter, ifs, 0⟩] scope pos) spos) (tS X.K X.mg S W (sSet i (vOf (oComp it (own.map (·.2)) bd t m)))) := (ps_setLc hc hN hy hyl hsw hi ok hg ht he hs).imp fun Dn σ H ⟨F, G, P, ev, M, h⟩ => by
  show tLc _ _ _ _ _ σ H _
  refine core_comp hv hsub ⟨F, G, P, ev, M, ?_⟩
  unfold sSet vOf at h
  rw [Res.bind_assoc] at h
  refine h.bind.imp fun d ev1 F1 H1 _ s1 M1 h3 a o f => ?_
  obtain ⟨F2, s2, M2, r⟩ := M1.freeze o f
  exact h3 F2 H1 _ s2 (M2.setv h1 h2 r)
theorem sx_compo (i : Nat) {y : Str} {py spos : Pos} (hc : X.calm = true) (hN : X.N.Nodup) (hi : PI X tg iter (tIt X.K X.mg S W it)) (ok : BlkOk X.N X.env.scope scope own)
    (hg : ∀ (s : Shared) (H : Hp) (C : Addr) (cl : List (Str × Addr)) (fp : List Addr), PG (X.blk s H scope (compEnvC scope cl C X.env) fp) tg (tG X.K X.mg S bd is)) (ht : ∀ (s : Shared) (H : Hp) (C : Addr) (cl : List (Str × Addr)) (fp : List Addr), PTs (X.blk s H scope (compEnvC scope cl C X.env) fp) ifs (tT X.K X.mg S W0 t))
    (he : ∀ (s : Shared) (H : Hp) (C : Addr) (cl : List (Str × Addr)) (fp : List Addr), PE (X.blk s H scope (compEnvC scope cl C X.env) fp) elt (tE X.K X.mg S W0 m)) (hv : ∀ v ∈ own.map (·.2), S.own v = false ∧ S.io v = false := by decide) (hsub : ∀ v ∈ is, v ∈ own.map (·.2) := by decide) (h1 : S.own i = true := by rfl) (h2 : S.io i = false := by rfl)
    (hy : X.N[i]? = some y := by rfl) (hyl : X.env.scope.names.lookup y = some .local := by rfl) (hsw : swapsWith (.ListComp elt [⟨tg, iter, ifs, 0⟩] scope pos) (some (.Name y py)) spos.line X.env = pure true := by exact sw_true rfl rfl rfl (by decide +kernel)) (hs : ∀ x, foldedSetIterable iter X.env x = pure x := by intro _; rfl) :
    PS X (.Assign [.Name y py] (.ListComp elt [⟨tg, iter, ifs, 0⟩] scope pos) spos) (tS X.K X.mg S W (sSetO i (oComp it (own.map (·.2)) bd t m))) := (ps_setLc hc hN hy hyl hsw hi ok hg ht he hs).imp fun Dn σ H ⟨F, G, P, ev, M, h⟩ => by
  show tLc _ _ _ _ _ σ H _
  refine core_comp hv hsub ⟨F, G, P, ev, M, ?_⟩
  refine h.bind.imp fun d ev1 F1 H1 _ s1 M1 h3 a o f => ?_
  exact h3 F1 H1 _ (Same.refl _) (M1.seto h1 h2 o f)
end
end TL

set_option Elab.async false
set_option linter.all false
set_option maxRecDepth 100000
namespace TL
open PySem PySem.Spec PyProof.Rows L2
open Classical in
/-- what the callee finds frozen: what the caller has frozen, and the own objects that are lent (B) -/
noncomputable def lendF (B : Addr → Prop) (F H : Hp) : Hp := fun a => if B a then H a else F a
open Classical in
noncomputable def takeF (B : Addr → Prop) (F : Hp) : Hp := fun a => if B a then none else F a
open Classical in
/-- what the callee must leave as it is -/
noncomputable def restG (io : Option Addr) (lam : Bool) (F H : Hp) : Hp := fun a => if (∃ o, F a = some o) ∨ io = some a ∨ (lam = true ∧ ∃ ps, H a = some (.tbl ps)) then none else H a

structure FnS where
  np : Nat
  io : Option Nat
  ro : Bool
  m : List D → Res (D × D)
def ArgsR [WC] (K : PySem.W.Frag) (mg : Str → Option Value) (io : Option Nat) (F G H : Hp) (ds : List D) (vs : List V) : Prop := ds.length = vs.length ∧ ∀ (i : Nat) d v, ds[i]? = some d → vs[i]? = some v →
  (io = some i → ∃ a, v = .ref a ∧ OwnD K mg F H d a ∧ F a = none ∧ G a = none) ∧ (io ≠ some i → Rp K mg F d v)
def IoR [WC] (K : PySem.W.Frag) (mg : Str → Option Value) (io : Option Nat) (F' G H' : Hp) (d : D) (vs : List V) : Prop := ∀ k, io = some k → ∃ a, vs[k]? = some (.ref a) ∧ OwnD K mg F' H' d a ∧ F' a = none ∧ G a = none
def ResR [WC] (K : PySem.W.Frag) (mg : Str → Option Value) (ro : Bool) (io : Option Nat) (F' G H' : Hp) (d : D) (v : V) (vs : List V) : Prop :=
  if ro = true then ∃ a, v = .ref a ∧ OwnD K mg F' H' d a ∧ F' a = none ∧ G a = none ∧ ∀ k, io = some k → vs[k]? ≠ some (.ref a) else Rp K mg F' d v
/-- a def's promise, by its meaning -/
def spF [WC] (K : PySem.W.Frag) (mg : Str → Option Value) (T : List (Addr × Str)) (f : FnS) : Sp := fun vs H Q E => ∃ F G ds, Frm T F G H ∧ vs.length = f.np ∧ ArgsR K mg f.io F G H ds vs ∧ match f.m ds with
  | .ok (d, o) => ∀ F' H' v, Same F F' → Frm T F' G H' → IoR K mg f.io F' G H' o vs → ResR K mg f.ro f.io F' G H' d v vs → Q v H'
  | .err c => ∀ F' H', Same F F' → Frm T F' G H' → ∀ a, mg c = some (.ref a) → E (.ref a) none H'
  | .stuck => False
/-! ### the rule for a def -/
def ioGet : Option Nat → Ev → Option D
  | some k, ev => (ev[k]?).join
  | none, _ => some .none
def bodyM (n : Nat) (io : Option Nat) (ro : Bool) (m : DS) (ds : List D) : Res (D × D) := match m (ds.map some ++ List.replicate (n - ds.length) none) with
  | .ok (fl, ev) => (lift (ioGet io ev)).bind fun o => match fl, ro with
    | .rt d, false => .ok (d, o)
    | .rto d, true => .ok (d, o)
    | .nx, false => .ok (.none, o)
    | _, _ => .stuck
  | .err c => .err c
  | .stuck => .stuck
def ioP (io : Option Nat) (vs : List V) : Nat → Option Addr := fun i => if io = some i then (match vs[i]? with | some (.ref a) => some a | _ => none) else none
theorem start_get {N : List Str} {vs : List V} {i : Nat} {v : V} (h : vs[i]? = some v) : (L2.start N vs)[i]? = some (some v) := by
  unfold L2.start
  have hlt : i < vs.length := (List.getElem?_eq_some_iff.mp h).1
  rw [List.getElem?_append_left (by simpa using hlt), List.getElem?_map, h]
  rfl
theorem ev_get {n : Nat} {ds : List D} {i : Nat} {d : D} (h : (ds.map some ++ List.replicate n (none : Option D))[i]? = some (some d)) : ds[i]? = some d := by
  by_cases hlt : i < ds.length
  · rw [List.getElem?_append_left (by simpa using hlt), List.getElem?_map] at h
    obtain ⟨x, e1, e2⟩ := Option.map_eq_some_iff.mp h
    cases e2
    exact e1
  · rw [List.getElem?_append_right (by simpa using Nat.le_of_not_lt hlt)] at h
    have := List.mem_of_getElem? h
    rw [List.mem_replicate] at this
    exact absurd this.2.symm (by simp)
section
variable [WC] {P : Program} {w : World} {K : PySem.W.Frag} {mg : Str → Option Value} {base : Heap}
theorem sim_start {S : Sx} {F G H : Hp} {N : List Str} {io : Option Nat} {ds : List D} {vs : List V} (fr : Frm S.T F G H) (ar : ArgsR K mg io F G H ds vs) (hl : vs.length ≤ N.length) (hio : ∀ i, i < vs.length → (S.own i = true ↔ io = some i)) (hio2 : ∀ i, io = some i → S.io i = true) :
    Sim K mg S F G (ioP io vs) H (ds.map some ++ List.replicate (N.length - ds.length) none) (L2.start N vs) where
  fr := fr
  len := by unfold L2.start; simp [ar.1]
  sl := fun i d h e => by
    have e1 := ev_get e
    have hlt : i < vs.length := by rw [← ar.1]; exact (List.getElem?_eq_some_iff.mp e1).1
    have e2 : vs[i]? = some vs[i] := List.getElem?_eq_getElem hlt
    refine ⟨vs[i], start_get e2, (ar.2 i d _ e1 e2).2 fun z => ?_⟩
    rw [(hio i hlt).mpr z] at h; cases h
  so := fun i d h e => by
    have e1 := ev_get e
    have hlt : i < vs.length := by rw [← ar.1]; exact (List.getElem?_eq_some_iff.mp e1).1
    have e2 : vs[i]? = some vs[i] := List.getElem?_eq_getElem hlt
    obtain ⟨a, x1, x2, x3, x4⟩ := (ar.2 i d _ e1 e2).1 ((hio i hlt).mp h)
    exact ⟨a, by rw [start_get e2, x1], x2, x3, x4⟩
  sp := fun i j d e a hi hj hn q1 q2 _ _ => by
    have e1 := ev_get q1
    have e2 := ev_get q2
    have h1 := (hio i (by rw [← ar.1]; exact (List.getElem?_eq_some_iff.mp e1).1)).mp hi
    have h2 := (hio j (by rw [← ar.1]; exact (List.getElem?_eq_some_iff.mp e2).1)).mp hj
    rw [h1] at h2
    cases h2
    exact hn rfl
  pn := fun i a e => by
    unfold ioP at e
    split at e
    · rename_i hi
      refine ⟨hio2 i hi, ?_⟩
      split at e
      · rename_i b hb
        cases e
        exact start_get hb
      · cases e
    · cases e
/-- THE RULE for a def: its body's meaning keeps its promise -/
theorem fn_ok {x qual : Str} {st : Stmt} {f : Addr} {oc dV kV doc pm cdv ct : Value} {od an : Option Addr} {osl : Array (Option Value)} {N ps : List Str} {k : Nat} {m : DS} {io : Option Nat} {ro : Bool} {S : Sx} (lk : K.lookup f = some ⟨oc, od, .func (PySem.W.fnOf x qual (defArgs st) (defBody st) (defScope st) dV kV doc pm an cdv ct), osl⟩) (hcd : PySem.W.codeIn K cdv qual = true) (SC : FnScope N ps (defScope st)) (hN : ps.length ≤ N.length) (hio : ∀ i, i < ps.length → (S.own i = true ↔ io = some i)) (hio2 : ∀ i, io = some i → S.io i = true ∧ i < ps.length)
    (hb : ∀ (A : Around) (outer : List Env) (s : Shared) (H : Hp) (E : XK), Room k (A.deeper (envOfC qual (defScope st) s.heap.objs.size f cdv)) → PSs (cxOf (L2N.CX P w) P w K mg base N qual (defScope st) f cdv A outer s H E) (defBody st) (tS K mg S (fun cls d _ H => E cls d H) m)) :
    FnOk P w K mg base (L2N.CX P w) (k + 1) f (PySem.W.fnOf x qual (defArgs st) (defBody st) (defScope st) dV kV doc pm an cdv ct) ps (spF K mg S.T ⟨ps.length, io, ro, bodyM N.length io ro m⟩) := by
  refine fn_of lk hcd SC (fun vs H Q E h => ?_) (fun A outer s H vs Q E hr h => ⟨_, hb A outer s H E hr, ?_⟩)
  · obtain ⟨F, G, ds, _, e, _⟩ := h; exact e
  · obtain ⟨F, G, ds, fr, hl, ar, h⟩ := h
    have hl : vs.length = ps.length := hl
    have M := sim_start (S := S) (N := N) fr ar (by omega) (fun i hi => hio i (by omega)) fun i hi => (hio2 i hi).1
    refine ⟨F, G, _, _, M, ?_⟩
    have h : (match bodyM N.length io ro m ds with
      | .ok (d, o) => ∀ F' H' v, Same F F' → Frm S.T F' G H' → IoR K mg io F' G H' o vs → ResR K mg ro io F' G H' d v vs → Q v H'
      | .err c => ∀ F' H', Same F F' → Frm S.T F' G H' → ∀ a, mg c = some (.ref a) → E (.ref a) none H'
      | .stuck => False) := h
    unfold bodyM at h
    have hds : N.length - ds.length = N.length - ds.length := rfl
    cases q : m (ds.map some ++ List.replicate (N.length - ds.length) none) with
    | stuck => rw [q] at h; exact h
    | err c => rw [q] at h; exact fun F' H' σ' s f a e => h F' H' s f a e
    | ok p =>
      obtain ⟨fl, ev'⟩ := p
      rw [q] at h
      simp only at h
      cases hx : ioGet io ev' with
      | none => rw [hx] at h; exact h.elim
      | some o =>
        rw [hx] at h
        simp only [lift_some, Res.bind_ok] at h
        have io_of : ∀ {F' H' σ'}, Sim K mg S F' G (ioP io vs) H' ev' σ' → IoR K mg io F' G H' o vs := fun {F' H' σ'} M' k hk => by
          subst hk
          have e1 : ev'[k]? = some (some o) := join_some hx
          obtain ⟨w1, w2⟩ := hio2 k rfl
          have hkl : k < vs.length := by omega
          have e2 : vs[k]? = some vs[k] := List.getElem?_eq_getElem hkl
          have hdk : k < ds.length := by rw [ar.1]; exact hkl
          obtain ⟨a, x1, x2, x3, x4⟩ := (ar.2 k _ _ (List.getElem?_eq_getElem hdk) e2).1 rfl
          have hp : ioP (some k) vs k = some a := by unfold ioP; rw [if_pos rfl, e2, x1]
          obtain ⟨_, y1⟩ := M'.pn k a hp
          obtain ⟨b, z1, z2, z3, z4⟩ := M'.so k o ((hio k w2).mpr rfl) e1
          rw [y1] at z1
          cases z1
          exact ⟨a, by rw [e2, x1], z2, z3, z4⟩
        intro F' H' σ' s M'
        cases fl with
        | nx =>
          cases ro with
          | false => exact h F' H' .non s M'.fr (io_of M') (rp_none (K := K) (mg := mg) (F := F'))
          | true => exact h.elim
        | rt d =>
          cases ro with
          | false => exact fun v r => h F' H' v s M'.fr (io_of M') r
          | true => exact h.elim
        | rto d =>
          cases ro with
          | false => exact h.elim
          | true =>
            intro a ow fa
            refine h F' H' (.ref a) s M'.fr (io_of M') ⟨a, rfl, ow, fa.1, fa.2.1, fun k hk z => ?_⟩
            subst hk
            have e1 : ev'[k]? = some (some o) := join_some hx
            obtain ⟨w1, w2⟩ := hio2 k rfl
            have hp : ioP (some k) vs k = some a := by unfold ioP; rw [if_pos rfl, z]
            obtain ⟨_, y1⟩ := M'.pn k a hp
            exact fa.2.2 k o ((hio k w2).mpr rfl) e1 y1
        | bk => cases ro <;> exact h.elim
        | ct => cases ro <;> exact h.elim
end

/-! ### a call of a def -/
mutual
def flatD : D → Bool
  | .list _ => false
  | .dict _ => false
  | .tuple xs => flatDs xs
  | _ => true
def flatDs : List D → Bool
  | [] => true
  | x :: xs => flatD x && flatDs xs
end
def flatKs : List (D × D) → Bool
  | [] => true
  | p :: xs => flatD p.1 && flatD p.2 && flatKs xs
/-- no list within; at the top one may stand -/
def flatC : D → Bool
  | .list xs => flatDs xs
  | .dict kvs => flatKs kvs
  | d => flatD d
section
variable [WC] {K : PySem.W.Frag} {mg : Str → Option Value} {F F' : Hp}
mutual
theorem flat_mv (h : ∀ a vs, SqT K F a vs → SqT K F' a vs) : ∀ (d : D) (v : V), flatD d = true → Rp K mg F d v → Rp K mg F' d v
  | .none, _, _, r | .bool _, _, _, r | .int _, _, _, r | .str _, _, _, r => by simpa only [Rp] using r
  | .list _, _, f, _ => by simp [flatD] at f
  | .dict _, _, f, _ => by simp [flatD] at f
  | .tuple ds, v, f, r => by
    simp only [flatD] at f
    simp only [Rp] at r ⊢
    obtain ⟨a, vs, e, q, rs⟩ := r
    exact ⟨a, vs, e, h a vs q, flats_mv h ds vs f rs⟩
theorem flats_mv (h : ∀ a vs, SqT K F a vs → SqT K F' a vs) : ∀ (ds : List D) (vs : List V), flatDs ds = true → Rps K mg F ds vs → Rps K mg F' ds vs
  | [], _, _, r => by simpa only [Rps] using r
  | d :: ds, vs, f, r => by
    simp only [flatDs, Bool.and_eq_true] at f
    simp only [Rps] at r ⊢
    obtain ⟨v, w, e, q1, q2⟩ := r
    exact ⟨v, w, e, flat_mv h d v f.1 q1, flats_mv h ds w f.2 q2⟩
end
theorem flatK_mv (h : ∀ a vs, SqT K F a vs → SqT K F' a vs) : ∀ (ds : List (D × D)) (ps : List E3), flatKs ds = true → Rkv K mg F ds ps → Rkv K mg F' ds ps
  | [], _, _, r => by simpa only [Rkv] using r
  | (a, b) :: ds, vs, f, r => by
    simp only [flatKs, Bool.and_eq_true] at f
    simp only [Rkv, Rk1] at r ⊢
    obtain ⟨v, w, e, ⟨q0, q1, q2⟩, q3⟩ := r
    exact ⟨v, w, e, ⟨q0, flat_mv h _ _ f.1.1 q1, flat_mv h _ _ f.1.2 q2⟩, flatK_mv h ds w f.2 q3⟩
end
def isSlot (j : Nat) : RV → Bool
  | .slot k => j == k
  | .val _ => false
/-- the own slot at the io place; it stands at no other place -/
def ioSlot (io : Option Nat) (rs : List RV) : Option (Option Nat) := match io with
  | none => some none
  | some k => match rs[k]? with
    | some (.slot j) => if (rs.eraseIdx k).any (isSlot j) then none else some (some j)
    | _ => none
def lends (io : Option Nat) (rs : List RV) : Bool := (match io with | some k => rs.eraseIdx k | none => rs).any fun r => match r with | .slot _ => true | .val _ => false
def putIo : Option Nat → D → Ev → Ev
  | some j, d, ev => ev.set j (some d)
  | none, _, ev => ev
def callD (f : FnS) (rs : List RV) (ev : Ev) : Res (D × Ev) := (lift (gets rs ev)).bind fun ds => (lift (ioSlot f.io rs)).bind fun js => (f.m ds).bind fun r => if lends f.io rs = false ∨ (flatC r.1 = true ∧ (f.ro = false → flatD r.1 = true) ∧ flatC r.2 = true) then .ok (r.1, putIo js r.2 ev) else .stuck
def eCall (f : FnS) (ms : DA) : DE := fun ev => (ms ev).bind fun p => (callD f p.1 p.2).bind fun q => .ok (.val q.1, q.2)
def oCallF (f : FnS) (ms : DA) : DO := fun ev => (ms ev).bind fun p => callD f p.1 p.2
section
variable [WC] {K : PySem.W.Frag} {mg : Str → Option Value} {S : Sx} {F G H : Hp} {P : Nat → Option Addr} {ev : Ev} {σ : L2.St} {T' : List (Addr × Str)}
theorem lendF_at {B : Addr → Prop} {a : Addr} (h : B a) : lendF B F H a = H a := by unfold lendF; rw [if_pos h]
theorem lendF_no {B : Addr → Prop} {a : Addr} (h : ¬ B a) : lendF B F H a = F a := by unfold lendF; rw [if_neg h]
theorem takeF_at {B : Addr → Prop} {a : Addr} (h : B a) : takeF B F a = none := by unfold takeF; rw [if_pos h]
theorem takeF_no {B : Addr → Prop} {a : Addr} (h : ¬ B a) : takeF B F a = F a := by unfold takeF; rw [if_neg h]
theorem restG_some {io : Option Addr} {lam : Bool} {a : Addr} {o : HO} (h : H a = some o) (h1 : F a = none) (h2 : io ≠ some a) (h3 : lam = true → ∀ ps, o ≠ .tbl ps) : restG io lam F H a = some o := by
  unfold restG
  rw [if_neg, h]
  rintro (⟨u, z⟩ | z | ⟨z1, ps, z2⟩)
  · rw [h1] at z; cases z
  · exact h2 z
  · rw [h] at z2; cases z2; exact h3 z1 ps rfl
theorem restG_of {io : Option Addr} {lam : Bool} {a : Addr} {o : HO} (h : restG io lam F H a = some o) : H a = some o ∧ F a = none ∧ io ≠ some a ∧ (lam = true → ∀ ps, o ≠ .tbl ps) := by
  unfold restG at h
  split at h
  · cases h
  · rename_i z
    rw [not_or, not_or] at z
    refine ⟨h, ?_, z.2.1, fun hl ps e => z.2.2 ⟨hl, ps, by rw [h, e]⟩⟩
    cases q : F a with
    | none => rfl
    | some u => exact absurd ⟨u, q⟩ z.1
theorem mem_erase {α : Type} {l : List α} {k i : Nat} {x : α} (h : l[i]? = some x) (hn : i ≠ k) : x ∈ l.eraseIdx k := by
  by_cases hlt : i < k
  · exact List.mem_of_getElem? (i := i) (by rw [List.getElem?_eraseIdx]; rw [if_pos hlt]; exact h)
  · have : k < i := by omega
    exact List.mem_of_getElem? (i := i - 1) (by rw [List.getElem?_eraseIdx]; rw [if_neg (by omega)]; rw [show i - 1 + 1 = i by omega]; exact h)
theorem tbl_keep {T : List (Addr × Str)} {H H' : Hp} (t : LamX.Tabs T H) (h : ∀ b o, H b = some o → ¬ OwnO b o → H' b = some o) : LamX.Tabs T H' := fun p hp => by
  obtain ⟨ps, e1, e2, e3⟩ := t p hp
  refine ⟨ps, h _ _ e1 (fun z => by rcases z with ⟨_, z⟩ | ⟨_, z⟩ <;> cases z), e2, fun pos cv hc => ?_⟩
  obtain ⟨c, q1, q2⟩ := e3 pos cv hc
  refine ⟨c, q1, h _ _ q2 (fun z => ?_)⟩
  rcases z with ⟨_, z⟩ | ⟨_, z⟩
  · unfold LamX.CodeO at z; cases z
  · exact dic_ne_code z.symm
theorem call_core {f : FnS} {rs : List RV} {vs : List V} {Q : VK} {E : XK} (M : Sim K mg S F G P H ev σ) (rv : RRvs K mg S F σ rs vs) (hT : T' = [] ∨ T' = S.T) (hnp : rs.length = f.np)
    (h : match callD f rs ev with
      | .ok (d, ev') => ∀ F' H', Same F F' → Sim K mg S F' G P H' ev' σ → (f.ro = false → ∀ v, Rp K mg F' d v → Q v H') ∧ (f.ro = true → ∀ a, OwnD K mg F' H' d a → FreshAt S ev' σ F' G a → Q (.ref a) H')
      | .err c => ∀ F' H', Same F F' → Frm S.T F' G H' → ∀ a, mg c = some (.ref a) → E (.ref a) none H'
      | .stuck => False) : spF K mg T' f vs H Q E := by
  unfold callD at h
  cases hg : gets rs ev with
  | none => rw [hg] at h; exact h.elim
  | some ds =>
    rw [hg] at h
    simp only [lift_some, Res.bind_ok] at h
    cases hj : ioSlot f.io rs with
    | none => rw [hj] at h; exact h.elim
    | some js =>
      rw [hj] at h
      simp only [lift_some, Res.bind_ok] at h
      have hlen : ds.length = vs.length := (gets_ok M rv hg).1
      have hget : ∀ (i : Nat) r d, rs[i]? = some r → ds[i]? = some d → r.get ev = some d := by
        have gen : ∀ {rs : List RV} {ds : List D} (i : Nat) r d, gets rs ev = some ds → rs[i]? = some r → ds[i]? = some d → r.get ev = some d := by
          intro rs
          induction rs with
          | nil => intro ds i r d _ e _; simp at e
          | cons x rs ih =>
            intro ds i r d e e1 e2
            unfold gets at e
            obtain ⟨d0, a1, e⟩ := Option.bind_eq_some_iff.mp e
            obtain ⟨ds2, a2, e⟩ := Option.bind_eq_some_iff.mp e
            cases e
            cases i with
            | zero => simp at e1 e2; subst e1; subst e2; exact a1
            | succ i => exact ih i r d a2 (by simpa using e1) (by simpa using e2)
        exact fun i r d e1 e2 => gen i r d hg e1 e2
      -- the lent objects
      let B : Addr → Prop := fun a => ∃ (i j : Nat), f.io ≠ some i ∧ rs[i]? = some (.slot j) ∧ σ[j]? = some (some (.ref a)) ∧ ∃ d, ev[j]? = some (some d)
      -- an own slot that is used has its object
      have used : ∀ (i j : Nat), rs[i]? = some (.slot j) → S.own j = true ∧ ∃ a d, vs[i]? = some (.ref a) ∧ σ[j]? = some (some (.ref a)) ∧ ev[j]? = some (some d) ∧ OwnD K mg F H d a ∧ F a = none ∧ G a = none ∧ (∀ d', ds[i]? = some d' → d' = d) := fun i j e => by
        have hi : i < vs.length := by rw [← rv.1]; exact (List.getElem?_eq_some_iff.mp e).1
        have e2 : vs[i]? = some vs[i] := List.getElem?_eq_getElem hi
        obtain ⟨ho, hs⟩ := rv.2 i _ _ e e2
        have hd : i < ds.length := by omega
        have e3 := hget i _ _ e (List.getElem?_eq_getElem hd)
        have e4 : ev[j]? = some (some ds[i]) := join_some e3
        obtain ⟨a, x1, x2, x3, x4⟩ := M.so j _ ho e4
        rw [hs] at x1
        have x1 : vs[i] = .ref a := by simpa using x1
        exact ⟨ho, a, _, by rw [e2, x1], by rw [hs, x1], e4, x2, x3, x4, fun d' e' => by rw [List.getElem?_eq_getElem hd] at e'; exact (Option.some.inj e').symm⟩
      have BF : ∀ a, B a → F a = none := fun a ⟨i, j, _, e, hs, _⟩ => by
        obtain ⟨_, a', d, _, y2, _, _, y5, _⟩ := used i j e
        rw [hs] at y2; cases y2; exact y5
      have BG : ∀ a, B a → G a = none := fun a ⟨i, j, _, e, hs, _⟩ => by
        obtain ⟨_, a', d, _, y2, _, _, _, y6, _⟩ := used i j e
        rw [hs] at y2; cases y2; exact y6
      have BH : ∀ a, B a → ∃ o, H a = some o ∧ OwnO a o := fun a ⟨i, j, _, e, hs, _⟩ => by
        obtain ⟨_, a', d, _, y2, _, y4, _⟩ := used i j e
        rw [hs] at y2; cases y2
        exact y4.obj
      -- the io place
      have ioF : ∀ k, f.io = some k → k < rs.length → ∃ j a d, js = some j ∧ rs[k]? = some (.slot j) ∧ vs[k]? = some (.ref a) ∧ σ[j]? = some (some (.ref a)) ∧ ev[j]? = some (some d) ∧ S.own j = true ∧ OwnD K mg F H d a ∧ F a = none ∧ G a = none ∧ ds[k]? = some d ∧ ¬ B a := fun k hk hlt => by
        unfold ioSlot at hj
        rw [hk] at hj
        simp only at hj
        split at hj
        · rename_i j hr
          split at hj
          · cases hj
          · rename_i hany
            cases hj
            obtain ⟨ho, a, d, y1, y2, y3, y4, y5, y6, y7⟩ := used k j hr
            have hd : k < ds.length := by rw [hlen, ← rv.1]; exact hlt
            refine ⟨j, a, d, rfl, hr, y1, y2, y3, ho, y4, y5, y6, ?_, ?_⟩
            · rw [List.getElem?_eq_getElem hd, y7 _ (List.getElem?_eq_getElem hd)]
            · rintro ⟨i, j2, n1, e, hs, d2, e2⟩
              have hij : i ≠ k := fun z => n1 (by rw [hk, z])
              have hne : j2 ≠ j := fun z => hany (List.any_eq_true.mpr ⟨_, mem_erase e hij, by simp [isSlot, z]⟩)
              obtain ⟨ho2, _⟩ := used i j2 e
              exact M.sp j2 j d2 d a ho2 ho hne e2 y3 hs y2
        · cases hj
      -- the io address
      let ioA : Option Addr := f.io.bind fun k => match vs[k]? with | some (.ref a) => some a | _ => none
      have ioA_of : ∀ a, ioA = some a → ∃ k j d, f.io = some k ∧ js = some j ∧ vs[k]? = some (.ref a) ∧ σ[j]? = some (some (.ref a)) ∧ ev[j]? = some (some d) ∧ S.own j = true ∧ OwnD K mg F H d a ∧ F a = none ∧ G a = none ∧ ¬ B a := fun a ha => by
        obtain ⟨k, hk, e⟩ := Option.bind_eq_some_iff.mp ha
        split at e
        · rename_i b hb
          cases e
          have hlt : k < rs.length := by rw [rv.1]; exact (List.getElem?_eq_some_iff.mp hb).1
          obtain ⟨j, a', d, z1, z2, z3, z4, z5, z6, z7, z8, z9, z10, z11⟩ := ioF k hk hlt
          rw [hb] at z3
          cases z3
          exact ⟨k, j, d, hk, z1, hb, z4, z5, z6, z7, z8, z9, z11⟩
        · cases e
      let lam : Bool := !T'.isEmpty
      let Fc := lendF B F H
      let Gc := restG ioA lam Fc H
      have sFc : Same F Fc := fun a o e => by
        show lendF B F H a = some o
        by_cases hb : B a
        · rw [BF a hb] at e; cases e
        · rw [lendF_no hb]; exact e
      have FcH : Same Fc H := fun a o e => by
        have e : lendF B F H a = some o := e
        by_cases hb : B a
        · rw [lendF_at hb] at e; exact e
        · rw [lendF_no hb] at e; exact M.fr.fh a o e
      have GcF : ∀ a o, Fc a = some o → Gc a = none := fun a o e => by
        cases q : Gc a with
        | none => rfl
        | some u =>
          have z := (restG_of q).2.1
          rw [e] at z
          cases z
      have Fcn : ∀ a ps, Fc a ≠ some (.tbl ps) := fun a ps e => by
        have e : lendF B F H a = some (.tbl ps) := e
        by_cases hb : B a
        · rw [lendF_at hb] at e
          obtain ⟨ws, z, z2⟩ := BH a hb
          rw [z] at e
          cases e
          rcases z2 with ⟨_, z2⟩ | ⟨_, z2⟩ <;> cases z2
        · rw [lendF_no hb] at e
          exact M.fr.nt a ps e
      have lamT : T' ≠ [] → lam = true := fun hT2 => by
        show (!T'.isEmpty) = true
        cases hTT : T' with
        | nil => exact absurd hTT hT2
        | cons _ _ => rfl
      have lamT' : lam = true → T' ≠ [] := fun hl z => by
        have hl : (!T'.isEmpty) = true := hl
        rw [z] at hl
        cases hl
      have tabc : LamX.Tabs T' H := by
        rcases hT with z | z
        · rw [z]; exact fun p hp => absurd hp (by simp)
        · rw [z]; exact M.fr.tb
      have frc : Frm T' Fc Gc H := ⟨FcH, fun a o e => (restG_of e).1, GcF, Fcn, fun hT2 a ps e => (restG_of e).2.2.2 (lamT hT2) ps rfl, tabc⟩
      -- what the caller keeps is among what the callee leaves
      have GGc : ∀ a o, G a = some o → Gc a = some o := fun a o e => by
        have hb : ¬ B a := fun z => by rw [BG a z] at e; cases e
        have hF : F a = none := by
          cases q : F a with
          | none => rfl
          | some u => rw [M.fr.gf a u q] at e; cases e
        refine restG_some (M.fr.gh a o e) (by show lendF B F H a = none; rw [lendF_no hb]; exact hF) (fun z => ?_) fun hl ps z => ?_
        · obtain ⟨k, j, d, _, _, _, _, _, _, _, _, g0, _⟩ := ioA_of a z
          rw [g0] at e; cases e
        · subst z
          have h0 : T' ≠ [] := lamT' hl
          rcases hT with z2 | z2
          · exact h0 z2
          · exact M.fr.gt (by rw [← z2]; exact h0) a ps e
      have arg : ArgsR K mg f.io Fc Gc H ds vs := ⟨hlen, fun i d v e1 e2 => by
        have hr : i < rs.length := by rw [rv.1]; exact (List.getElem?_eq_some_iff.mp e2).1
        refine ⟨fun hio => ?_, fun hio => ?_⟩
        · obtain ⟨j, a, d', z1, z2, z3, z4, z5, z6, z7, z8, z9, z10, z11⟩ := ioF i hio hr
          rw [e2] at z3
          rw [e1] at z10
          cases z3
          cases z10
          refine ⟨a, rfl, ?_, by show lendF B F H a = none; rw [lendF_no z11]; exact z8, ?_⟩
          · exact z7.at sFc fun _ y => y
          · cases q : Gc a with
            | none => rfl
            | some u =>
              have hi : ioA = some a := by show f.io.bind _ = _; rw [hio]; simp only [Option.bind_some]; rw [e2]
              exact absurd hi (restG_of q).2.2.1
        · have er : rs[i]? = some rs[i] := List.getElem?_eq_getElem hr
          cases hrs : rs[i] with
          | val d0 =>
            rw [hrs] at er
            have := hget i _ _ er e1
            simp only [RV.get, Option.some.injEq] at this
            subst this
            exact Rp.mono sFc _ _ (rv.2 i _ _ er e2)
          | slot j =>
            rw [hrs] at er
            obtain ⟨ho, a, d', y1, y2, y3, y4, y5, y6, y7⟩ := used i j er
            rw [e2] at y1
            cases y1
            have := y7 d e1
            subst this
            have hB : B a := ⟨i, j, hio, er, y2, _, y3⟩
            exact y4.frz sFc fun u x1 => by show lendF B F H a = _; rw [lendF_at hB]; exact x1⟩
      refine ⟨Fc, Gc, ds, frc, by rw [← rv.1]; exact hnp, arg, ?_⟩
      cases hm : f.m ds with
      | stuck => rw [hm] at h; exact h.elim
      | err c =>
        rw [hm] at h
        intro F' H' s fr2 a ha
        refine h F' H' (sFc.trans s) ⟨fr2.fh, fun b o e => fr2.gh b o (GGc b o e), fun b o e => ?_, fr2.nt, M.fr.gt, ?_⟩ a ha
        · cases q : G b with
          | none => rfl
          | some u => have := fr2.gf b o e; rw [GGc b u q] at this; cases this
        · rcases hT with z | z
          · refine tbl_keep M.fr.tb fun b o e nl => ?_
            by_cases hF : ∃ u, Fc b = some u
            · obtain ⟨u, hu⟩ := hF
              have := FcH b u hu
              rw [e] at this; cases this
              exact fr2.fh b _ (s b _ hu)
            · have hF' : Fc b = none := by
                cases q : Fc b with
                | none => rfl
                | some u => exact absurd ⟨u, q⟩ hF
              refine fr2.gh b o (restG_some e hF' (fun z2 => ?_) fun hl => ?_)
              · obtain ⟨k, j, d, _, _, _, _, _, _, ow, _⟩ := ioA_of b z2
                obtain ⟨u, y1, y2⟩ := ow.obj; rw [e] at y1; cases y1; exact absurd y2 nl
              · have : (!T'.isEmpty) = true := hl
                rw [z] at this; cases this
          · rw [← z]; exact fr2.tb
      | ok p =>
        obtain ⟨d, o⟩ := p
        rw [hm] at h
        simp only [Res.bind_ok] at h
        by_cases hfl : lends f.io rs = false ∨ (flatC d = true ∧ (f.ro = false → flatD d = true) ∧ flatC o = true)
        · rw [if_pos hfl] at h
          simp only at h
          intro F' H' v s fr2 hio hres
          have noB : lends f.io rs = false → ∀ a, ¬ B a := fun hl a ⟨i, j, n1, e, _⟩ => by
            have hm2 : (.slot j : RV) ∈ (match f.io with | some k => rs.eraseIdx k | none => rs) := by
              cases hh : f.io with
              | none => exact List.mem_of_getElem? e
              | some k => exact mem_erase e (fun z => n1 (by rw [hh, z]))
            unfold lends at hl
            rw [List.any_eq_false] at hl
            exact hl _ hm2 rfl
          let F2 := takeF B F'
          have sF2 : Same F F2 := fun a u e => by
            show takeF B F' a = some u
            have hb : ¬ B a := fun z => by rw [BF a z] at e; cases e
            rw [takeF_no hb]; exact s a u (sFc a u e)
          have F2F : Same F2 F' := fun a u e => by
            have e : takeF B F' a = some u := e
            by_cases hb : B a
            · rw [takeF_at hb] at e; cases e
            · rw [takeF_no hb] at e; exact e
          have mvT : ∀ a ws, SqT K F' a ws → SqT K F2 a ws := fun a ws q => by
            rcases q with q | q
            · refine .inl ?_
              have nb : ¬ B a := fun z => by
                obtain ⟨xs, hx, hy⟩ := BH a z
                have e1 : Fc a = some xs := by show lendF B F H a = _; rw [lendF_at z]; exact hx
                have e2 := s a _ e1
                rcases q with q | ⟨ob, q⟩
                · rw [e2] at q; cases q; rcases hy with ⟨_, hy⟩ | ⟨_, hy⟩ <;> cases hy
                · rw [e2] at q; cases q; rcases hy with ⟨_, hy⟩ | ⟨_, hy⟩ <;> cases hy
              rcases q with q | ⟨ob, q⟩
              · exact .inl (by show takeF B F' a = _; rw [takeF_no nb]; exact q)
              · exact .inr ⟨ob, by show takeF B F' a = _; rw [takeF_no nb]; exact q⟩
            · exact .inr q
          have eqF : lends f.io rs = false → Same F' F2 := fun hl a u e => by
            show takeF B F' a = some u
            rw [takeF_no (noB hl a)]; exact e
          have mvO : ∀ {d : D} {a : Addr}, (lends f.io rs = false ∨ flatC d = true) → OwnD K mg F' H' d a → OwnD K mg F2 H' d a := fun {d a} hf ow => by
            cases d with
            | list xs =>
              obtain ⟨ws, y1, y2⟩ := ow
              refine ⟨ws, y1, ?_⟩
              rcases hf with hf | hf
              · exact Rps.mono (eqF hf) _ _ y2
              · exact flats_mv mvT _ _ (by simpa only [flatC] using hf) y2
            | dict xs =>
              obtain ⟨ws, y1, y0, y2, y3⟩ := ow
              refine ⟨ws, y1, y0, ?_, y3⟩
              rcases hf with hf | hf
              · exact Rkv.mono (eqF hf) _ _ y2
              · exact flatK_mv mvT _ _ (by simpa only [flatC] using hf) y2
            | _ => exact False.elim ow
          have F2n : ∀ a, F' a = none → F2 a = none := fun a e => by
            show takeF B F' a = none
            by_cases hb : B a
            · exact takeF_at hb
            · rw [takeF_no hb]; exact e
          have Gc_n : ∀ a, Gc a = none → G a = none := fun a e => by
            cases q : G a with
            | none => rfl
            | some u => rw [GGc a u q] at e; cases e
          have tb2 : LamX.Tabs S.T H' := by
            rcases hT with z | z
            · refine tbl_keep M.fr.tb fun b o e nl => ?_
              by_cases hF : ∃ u, Fc b = some u
              · obtain ⟨u, hu⟩ := hF
                have := FcH b u hu
                rw [e] at this; cases this
                exact fr2.fh b _ (s b _ hu)
              · have hF' : Fc b = none := by
                  cases q : Fc b with
                  | none => rfl
                  | some u => exact absurd ⟨u, q⟩ hF
                refine fr2.gh b o (restG_some e hF' (fun z2 => ?_) fun hl => ?_)
                · obtain ⟨k, j, d, _, _, _, _, _, _, ow, _⟩ := ioA_of b z2
                  obtain ⟨u, y1, y2⟩ := ow.obj; rw [e] at y1; cases y1; exact absurd y2 nl
                · have : (!T'.isEmpty) = true := hl
                  rw [z] at this; cases this
            · rw [← z]; exact fr2.tb
          -- the own slots behind the call
          have others : ∀ i d0, S.own i = true → ev[i]? = some (some d0) → (∀ j, js = some j → i ≠ j) → ∃ a, σ[i]? = some (some (.ref a)) ∧ OwnD K mg F2 H' d0 a ∧ F2 a = none ∧ G a = none := fun i d0 ho e hne => by
            obtain ⟨a, x1, x2, x3, x4⟩ := M.so i d0 ho e
            have hia : ioA ≠ some a := fun z => by
              obtain ⟨k, j, d', _, z2, _, z4, z5, z6, _⟩ := ioA_of a z
              exact M.sp i j d0 d' a ho z6 (hne j z2) e z5 x1 z4
            refine ⟨a, x1, ?_, ?_, x4⟩
            · obtain ⟨ob, w1, w2⟩ := x2.there
              refine x2.at sF2 fun u y1 => ?_
              rw [w1] at y1
              cases y1
              by_cases hb : B a
              · exact fr2.fh a _ (s a _ (by show lendF B F H a = _; rw [lendF_at hb]; exact w1))
              · exact fr2.gh a _ (restG_some w1 (by show lendF B F H a = none; rw [lendF_no hb]; exact x3) hia fun _ ps z => w2 ps z)
            · by_cases hb : B a
              · exact takeF_at hb
              · refine F2n a ?_
                cases q : F' a with
                | none => rfl
                | some u =>
                  obtain ⟨o', y1, y2⟩ := x2.there
                  have := fr2.gf a u q
                  rw [show Gc a = some o' from restG_some y1 (by show lendF B F H a = none; rw [lendF_no hb]; exact x3) hia fun _ ps => y2 ps] at this
                  cases this
          have sim2 : Sim K mg S F2 G P H' (putIo js o ev) σ := by
            have fr3 : Frm S.T F2 G H' := ⟨F2F.trans fr2.fh, fun b u e => fr2.gh b u (GGc b u e), fun b u e => Gc_n b (fr2.gf b u (F2F b u e)), fun b ps e => fr2.nt b ps (F2F b _ e), M.fr.gt, tb2⟩
            cases js with
            | none =>
              exact ⟨fr3, M.len, fun i d0 h0 e => let ⟨v0, e1, r⟩ := M.sl i d0 h0 e; ⟨v0, e1, Rp.mono sF2 _ _ r⟩, fun i d0 ho e => others i d0 ho e (fun j z => by cases z), M.sp, M.pn⟩
            | some j =>
              -- the io slot
              obtain ⟨k, hk⟩ : ∃ k, f.io = some k := by
                cases hh : f.io with
                | none => unfold ioSlot at hj; rw [hh] at hj; cases hj
                | some k => exact ⟨k, rfl⟩
              have hlt : k < rs.length := by
                unfold ioSlot at hj
                rw [hk] at hj
                simp only at hj
                split at hj
                · rename_i j' hr; exact (List.getElem?_eq_some_iff.mp hr).1
                · cases hj
              obtain ⟨j', a, d', z1, z2, z3, z4, z5, z6, z7, z8, z9, z10, z11⟩ := ioF k hk hlt
              cases z1
              obtain ⟨a', w1, w2, w3, w4⟩ := hio k hk
              rw [z3] at w1
              cases w1
              have ow2 : OwnD K mg F2 H' o a := mvO (hfl.imp id fun z => z.2.2) w2
              refine ⟨fr3, by show (ev.set j _).length = _; rw [List.length_set]; exact M.len, fun i d0 h0 e => ?_, fun i d0 ho e => ?_, fun i i2 d0 e0 b hi hi2 hn q1 q2 => ?_, M.pn⟩
              · rcases set_get e with ⟨rfl, _⟩ | ⟨_, e1⟩
                · rw [z6] at h0; cases h0
                · obtain ⟨v0, e2, r⟩ := M.sl i d0 h0 e1
                  exact ⟨v0, e2, Rp.mono sF2 _ _ r⟩
              · rcases set_get e with ⟨rfl, e1⟩ | ⟨hn, e1⟩
                · cases e1
                  exact ⟨a, z4, ow2, F2n a w3, z9⟩
                · exact others i d0 ho e1 fun j2 z => by cases z; exact hn
              · have pr : ∀ {i : Nat} {d0 : D}, (ev.set j (some o))[i]? = some (some d0) → ∃ d1, ev[i]? = some (some d1) := fun {i d0} e => by
                  rcases set_get e with ⟨rfl, _⟩ | ⟨_, e1⟩
                  · exact ⟨_, z5⟩
                  · exact ⟨_, e1⟩
                obtain ⟨d1, p1⟩ := pr q1
                obtain ⟨d2, p2⟩ := pr q2
                exact M.sp i i2 d1 d2 b hi hi2 hn p1 p2
          obtain ⟨k1, k2⟩ := h F2 H' sF2 sim2
          unfold ResR at hres
          cases hro : f.ro with
          | false =>
            rw [hro] at hres
            simp only [Bool.false_eq_true, if_false] at hres
            refine k1 hro v ?_
            rcases hfl with hf | hf
            · exact Rp.mono (eqF hf) _ _ hres
            · exact flat_mv mvT _ _ (hf.2.1 hro) hres
          | true =>
            rw [hro] at hres
            simp only [if_true] at hres
            obtain ⟨a, rfl, w2, w3, w4, w5⟩ := hres
            refine k2 hro a (mvO (hfl.imp id fun z => z.1) w2) ⟨F2n a w3, Gc_n a w4, fun i d0 ho e z => ?_⟩
            -- an own slot's object is not the new one
            obtain ⟨b, y1, y2, y3, y4⟩ := sim2.so i d0 ho e
            rw [z] at y1
            cases y1
            have old : ∃ d1, ev[i]? = some (some d1) := by
              cases js with
              | none => exact ⟨d0, e⟩
              | some j =>
                rcases set_get (show (ev.set j (some o))[i]? = some (some d0) from e) with ⟨rfl, _⟩ | ⟨_, e1⟩
                · obtain ⟨k, hk⟩ : ∃ k, f.io = some k := by
                    cases hh : f.io with
                    | none => unfold ioSlot at hj; rw [hh] at hj; cases hj
                    | some k => exact ⟨k, rfl⟩
                  have hlt : k < rs.length := by
                    unfold ioSlot at hj
                    rw [hk] at hj
                    simp only at hj
                    split at hj
                    · rename_i j' hr; exact (List.getElem?_eq_some_iff.mp hr).1
                    · cases hj
                  obtain ⟨j', a', d', z1, z2, z3, z4, z5, _⟩ := ioF k hk hlt
                  cases z1
                  exact ⟨d', z5⟩
                · exact ⟨d0, e1⟩
            obtain ⟨d1, e1⟩ := old
            obtain ⟨b, x1, x2, x3, x4⟩ := M.so i d1 ho e1
            rw [z] at x1
            cases x1
            obtain ⟨o1, t1, t2⟩ := x2.there
            by_cases hia : ioA = some a
            · obtain ⟨k, j, d', g1, g2, g3, _⟩ := ioA_of a hia
              exact w5 k g1 g3
            · by_cases hb : B a
              · have e3 : Fc a = some o1 := by show lendF B F H a = _; rw [lendF_at hb]; exact t1
                rw [s a _ e3] at w3; cases w3
              · rw [show Gc a = some o1 from restG_some t1 (by show lendF B F H a = none; rw [lendF_no hb]; exact x3) hia fun _ ps => t2 ps] at w4
                cases w4
        · rw [if_neg hfl] at h; exact h.elim
end
end TL

set_option Elab.async false
set_option linter.all false
set_option maxRecDepth 100000
/-! calls of the module's defs; chains of comparisons. -/
namespace TL
open PySem PySem.Spec PyProof.Rows L2
/-- a call with the number of its arguments checked -/
def chkN (n : Nat) (ms : DA) : DA := fun ev => (ms ev).bind fun p => if p.1.length = n then .ok p else .stuck
section
variable [WC] {X : Cx} {S : Sx} {W : WX} {a b c e : Expr} {es : List Expr} {ma mb mc m n : DE} {ms : DA} {pos p : Pos} {x : Str} {f : FnS} {k : Nat} {fa : Addr} {fd : FuncData} {ps : List Str} {T' : List (Addr × Str)}
theorem sa_chk {n : Nat} (h : PA X es (tA X.K X.mg S W ms)) : PA X es (fun σ H Q => tA X.K X.mg S W (chkN n ms) σ H fun vs H' => vs.length = n → Q vs H') := h.imp fun σ H Q ⟨F, G, P, ev, M, h⟩ => by
  refine ⟨F, G, P, ev, M, h.bind.imp fun rs ev1 F1 H1 _ s1 M1 h1 vs rvs => ?_⟩
  obtain ⟨hl, h1⟩ := h1.cond
  exact h1 F1 H1 (Same.refl _) M1 vs rvs (by rw [← rvs.1]; exact hl)
theorem core_fn {σ : L2.St} {H : Hp} {Q : VK} (hT : T' = [] ∨ T' = S.T) (hro : f.ro = false) (h : tE X.K X.mg S W (eCall f (chkN f.np ms)) σ H Q) : tCallS (spF X.K X.mg T' f) (fun σ => WE W σ) (tA X.K X.mg S W ms) σ H Q := by
  obtain ⟨F, G, P, ev, M, h⟩ := h
  refine ⟨F, G, P, ev, M, h.bind.bind.imp fun rs ev1 F1 H1 _ s1 M1 h1 vs rvs => ?_⟩
  obtain ⟨hl, h1⟩ := h1.cond
  have h2 := h1 F1 H1 (Same.refl _) M1
  refine call_core M1 rvs hT hl ?_
  cases q : callD f rs ev1 with
  | stuck => simp only at h2; rw [q] at h2; exact h2
  | err cc => simp only at h2; rw [q] at h2; exact h2
  | ok r =>
    simp only at h2
    rw [q] at h2
    exact fun F' H' s2 M2 => ⟨fun _ v r => h2 F' H' s2 M2 v r, fun z => (by rw [hro] at z; cases z)⟩
theorem core_fno {σ : L2.St} {H : Hp} {Q : VK} (hT : T' = [] ∨ T' = S.T) (hro : f.ro = true) (h : tO X.K X.mg S W (oCallF f (chkN f.np ms)) σ H Q) : tCallS (spF X.K X.mg T' f) (fun σ => WE W σ) (tA X.K X.mg S W ms) σ H Q := by
  obtain ⟨F, G, P, ev, M, h⟩ := h
  refine ⟨F, G, P, ev, M, h.bind.bind.imp fun rs ev1 F1 H1 _ s1 M1 h1 vs rvs => ?_⟩
  obtain ⟨hl, h1⟩ := h1.cond
  have h2 := h1 F1 H1 (Same.refl _) M1
  refine call_core M1 rvs hT hl ?_
  cases q : callD f rs ev1 with
  | stuck => simp only at h2; rw [q] at h2; exact h2
  | err cc => simp only at h2; rw [q] at h2; exact h2
  | ok r =>
    simp only at h2
    rw [q] at h2
    exact fun F' H' s2 M2 => ⟨fun z => (by rw [hro] at z; cases z), fun _ a o fr => h2 F' H' s2 M2 a o fr⟩
theorem sd_call (tk : L2N.Takes X W) (Fn : FnOk X.prog X.w X.K X.mg X.base (L2N.CX X.prog X.w) k fa fd ps (spF X.K X.mg T' f)) (hr : Room k X.A) (hT : T' = [] ∨ T' = S.T) (hg : Gl X x) (hm : X.mg x = some (.ref fa)) (hk : PySem.W.keepIn X.K (.ref fa) = true) (hb : Binds X.K fd ps [])
    (ha : PA X (e :: es) (tA X.K X.mg S W ms)) (hro : f.ro = false := by rfl) (hdb : (x == ("__debug__" : Str)) = false := by decide) (he : starEach (e :: es) X.env = (false, eval e X.env) :: starEach es X.env := by rfl) (hpl : (backTo pos (starEach es X.env)).any (·.1) = false := by rfl) :
    PE X (.Call (.Name x p) (e :: es) [] pos) (tE X.K X.mg S W (eCall f (chkN f.np ms))) := (pe_callS (E := fun σ => WE W σ) Fn hr hg hm hk hb (fun σ => L2N.passAt tk σ) ha hdb he hpl).imp fun _ _ _ h => core_fn hT hro h
theorem so_call (tk : L2N.Takes X W) (Fn : FnOk X.prog X.w X.K X.mg X.base (L2N.CX X.prog X.w) k fa fd ps (spF X.K X.mg T' f)) (hr : Room k X.A) (hT : T' = [] ∨ T' = S.T) (hg : Gl X x) (hm : X.mg x = some (.ref fa)) (hk : PySem.W.keepIn X.K (.ref fa) = true) (hb : Binds X.K fd ps [])
    (ha : PA X (e :: es) (tA X.K X.mg S W ms)) (hro : f.ro = true := by rfl) (hdb : (x == ("__debug__" : Str)) = false := by decide) (he : starEach (e :: es) X.env = (false, eval e X.env) :: starEach es X.env := by rfl) (hpl : (backTo pos (starEach es X.env)).any (·.1) = false := by rfl) :
    PE X (.Call (.Name x p) (e :: es) [] pos) (tO X.K X.mg S W (oCallF f (chkN f.np ms))) := (pe_callS (E := fun σ => WE W σ) Fn hr hg hm hk hb (fun σ => L2N.passAt tk σ) ha hdb he hpl).imp fun _ _ _ h => core_fno hT hro h
variable {g h : D → D → Option D} {op op' : CmpOp}
theorem sd_chain (ho : OpR X (compareOp op) (rV X.K X.mg g)) (ho' : OpR X (compareOp op') (rV X.K X.mg h)) (ha : PE X a (tE X.K X.mg S W ma)) (hb : PE X b (tE X.K X.mg S W mb)) (hc : PE X c (tE X.K X.mg S W mc)) (hm : lastMarks [op, op'] [b, c] = false := by with_unfolding_all rfl) :
    PE X (.Compare a [op, op'] [b, c] pos) (tE X.K X.mg S W (vChain g h ma mb mc)) := (pe_chain ho ho' ha hb hc hm).imp fun _ _ _ h => core_chain h
theorem st_chain (ho : OpR X (compareOp op) (rV X.K X.mg g)) (ho' : OpR X (compareOp op') (rV X.K X.mg h)) (ha : PE X a (tE X.K X.mg S W ma)) (hb : PE X b (tE X.K X.mg S W mb)) (hc : PE X c (tE X.K X.mg S W mc)) (hm : lastMarks [op, op'] [b, c] = false := by with_unfolding_all rfl) :
    PT X (.Compare a [op, op'] [b, c] pos) (tT X.K X.mg S W (tOf (vChain g h ma mb mc))) := (pt_chain ho ho' ha hb hc hm).imp fun _ _ _ h => core_chain (tE_bool h)
end
end TL

set_option Elab.async false
set_option linter.all false
set_option maxRecDepth 100000
set_option maxHeartbeats 2000000
/-! list comprehensions and unpacking where an exception is handled. -/
namespace TL
open PySem PySem.Spec PyProof.Rows L2 HotX L2H
section
variable {prog : Program} {w : World} {A : Around} {E : Value → Shared → Prop} {s : Shared}
/-- a list's iterator is at its end -/
theorem next_list_hot {it l x1 : Addr} {i : Nat} {items} {Q : Option Value → Shared → Prop} (hot : HotAt A x1 s.heap) (hne : x1 ≠ it)
    (hit : s.heap.IsListIter it l i) (hl : s.heap.IsList l items) (hx : items[i]? = none)
    (hQ : ∀ h', Heap.ExtBut it s.heap h' → Q none { s with heap := h' }) : wpAny (model prog w) A (pyNext (.ref it)) Q E s := by
  obtain ⟨o, ho, hc, hd⟩ := id hit
  obtain ⟨ol, hol, _, nl, hdl⟩ := hl
  obtain ⟨hh, o1, vs1, h1, d1, c1⟩ := hot
  unfold pyNext
  refine wpAny_bind (wpAny_attempt (wpAny_callSpecial?_slot (name := Str.ofString "__next__") hit.typeIs slot_listiter_next
    (wpAny_call_entry slot_listiter_next hit.typeIs entry_listiter_next ?_ (args_listiter_next _))))
  show wpAny _ _ (field (.ref it) 0 >>= _) _ _ s
  refine wpAny_bind (wpAny_field ho hd (x := .ref l) rfl ?_)
  show wpAny _ _ (if (Value.ref l == Value.none) = true then _ else _) _ _ s
  rw [if_neg (show ¬ ((Value.ref l == Value.none) = true) from Bool.false_ne_true)]
  show wpAny _ _ (field (.ref it) 1 >>= _) _ _ s
  refine wpAny_bind (wpAny_field ho hd (x := .int i 0) rfl ?_)
  show wpAny _ _ (seqItems? (.ref l) >>= _) _ _ s
  refine wpAny_bind (wpAny_seqItems hol hdl ?_)
  simp only [Int.toNat_natCast, hx]
  refine wpAny_bind (wpAny_rule (wpAny_bind (wpAny_setField ho hd (by simp) ?_)))
  show wpAny _ _ (newExc (.type "StopIteration") [] >>= _) _ _ _
  refine wpAny_bind ?_
  simp only [newExc, newTuple]
  refine wpAny_bind (wpAny_newObj_type ?_ (by size_fits))
  refine wpAny_bind (m := firstArgMember _ _) (wpAny_of_eq (a := Value.none) (by first | rfl | (simp only [firstArgMember]; rfl)) ?_)
  refine wpAny_newObj_type ?_ (by size_fits)
  have h1' : ∀ u, (s.heap.update it u).get? x1 = some o1 := fun u => by rw [Heap.get?_update_other _ _ (Ne.symm hne)]; exact h1
  refine raiseNew_hot ⟨hh, o1, vs1, Heap.get?_push_of_some _ (Heap.get?_push_of_some _ (h1' _)), d1, c1⟩ (Nat.ne_of_lt (Heap.lt_size (Heap.get?_push_of_some _ (h1' _)))) (Heap.get?_push_size _ rfl) rfl (by first | (simp; done) | (simp; omega) | (simp only [Array.size_append]; simp; omega)) ?_
  refine wpAny_bind (wpAny_isInstance (T := "StopIteration") (b := true) ⟨_, Heap.get?_update_self _ (Heap.get?_push_size _ rfl) rfl, rfl⟩ isSubtype_stop ?_)
  refine wpAny_pure (hQ _ fun b o hb e => ?_)
  have e2 : ∀ u, (s.heap.update it u).get? b = some o := fun u => by rw [Heap.get?_update_other _ _ (Ne.symm hb)]; exact e
  rw [Heap.get?_update_other _ _ (Nat.ne_of_gt (Heap.lt_size (Heap.get?_push_of_some _ (e2 _))))]
  exact Heap.get?_push_of_some _ (Heap.get?_push_of_some _ (e2 _))
theorem next_tuple_hot {it t x1 : Addr} {i : Nat} {items} {Q : Option Value → Shared → Prop} (hot : HotAt A x1 s.heap) (hne : x1 ≠ it)
    (hit : IsTupIter s.heap it t i) (ht : IsTup s.heap t items) (hx : items[i]? = none)
    (hQ : ∀ h', Heap.ExtBut it s.heap h' → Q none { s with heap := h' }) : wpAny (model prog w) A (pyNext (.ref it)) Q E s := by
  obtain ⟨o, ho, hc, hd⟩ := id hit
  obtain ⟨ol, hol, _, nl, hdl⟩ := ht
  obtain ⟨hh, o1, vs1, h1, d1, c1⟩ := hot
  unfold pyNext
  refine wpAny_bind (wpAny_attempt (wpAny_callSpecial?_slot (name := Str.ofString "__next__") hit.typeIs slot_tupleiter_next
    (wpAny_call_entry slot_tupleiter_next hit.typeIs entry_tupleiter_next ?_ (args_tupleiter_next _))))
  show wpAny _ _ (field (.ref it) 0 >>= _) _ _ s
  refine wpAny_bind (wpAny_field ho hd (x := .ref t) rfl ?_)
  show wpAny _ _ (if (Value.ref t == Value.none) = true then _ else _) _ _ s
  rw [if_neg (show ¬ ((Value.ref t == Value.none) = true) from Bool.false_ne_true)]
  show wpAny _ _ (field (.ref it) 1 >>= _) _ _ s
  refine wpAny_bind (wpAny_field ho hd (x := .int i 0) rfl ?_)
  show wpAny _ _ (seqItems? (.ref t) >>= _) _ _ s
  refine wpAny_bind (wpAny_seqItems hol hdl ?_)
  simp only [Int.toNat_natCast, hx]
  refine wpAny_bind (wpAny_rule (wpAny_bind (wpAny_setField ho hd (by simp) ?_)))
  show wpAny _ _ (newExc (.type "StopIteration") [] >>= _) _ _ _
  refine wpAny_bind ?_
  simp only [newExc, newTuple]
  refine wpAny_bind (wpAny_newObj_type ?_ (by size_fits))
  refine wpAny_bind (m := firstArgMember _ _) (wpAny_of_eq (a := Value.none) (by first | rfl | (simp only [firstArgMember]; rfl)) ?_)
  refine wpAny_newObj_type ?_ (by size_fits)
  have h1' : ∀ u, (s.heap.update it u).get? x1 = some o1 := fun u => by rw [Heap.get?_update_other _ _ (Ne.symm hne)]; exact h1
  refine raiseNew_hot ⟨hh, o1, vs1, Heap.get?_push_of_some _ (Heap.get?_push_of_some _ (h1' _)), d1, c1⟩ (Nat.ne_of_lt (Heap.lt_size (Heap.get?_push_of_some _ (h1' _)))) (Heap.get?_push_size _ rfl) rfl (by first | (simp; done) | (simp; omega) | (simp only [Array.size_append]; simp; omega)) ?_
  refine wpAny_bind (wpAny_isInstance (T := "StopIteration") (b := true) ⟨_, Heap.get?_update_self _ (Heap.get?_push_size _ rfl) rfl, rfl⟩ isSubtype_stop ?_)
  refine wpAny_pure (hQ _ fun b o hb e => ?_)
  have e2 : ∀ u, (s.heap.update it u).get? b = some o := fun u => by rw [Heap.get?_update_other _ _ (Ne.symm hb)]; exact e
  rw [Heap.get?_update_other _ _ (Nat.ne_of_gt (Heap.lt_size (Heap.get?_push_of_some _ (e2 _))))]
  exact Heap.get?_push_of_some _ (Heap.get?_push_of_some _ (e2 _))
theorem unpack_hot {t x1 : Addr} {items : Array Value} {Q : List Value → Shared → Prop} (hot : HotAt A x1 s.heap) (ht : IsTup s.heap t items)
    (hQ : ∀ h', Heap.ExtBut s.heap.objs.size s.heap h' → Q items.toList { s with heap := h' }) : wpAny (model prog w) A (unpackItems (.ref t) items.size none) Q E s := by
  have hlt : t ≠ s.heap.objs.size := by obtain ⟨o, ho, _⟩ := ht; exact Nat.ne_of_lt (Heap.lt_size ho)
  obtain ⟨hh, o1, vs1, h1, d1, c1⟩ := hot
  have hlx : x1 ≠ s.heap.objs.size := Nat.ne_of_lt (Heap.lt_size h1)
  unfold unpackItems
  refine wpAny_bind ?_
  · unfold notIterableAtAll
    refine wpAny_bind (wpAny_specialOf ht.typeIs slot_tuple_iter.lookup ?_)
    refine wpAny_pure ?_
    simp only [Bool.false_eq_true, if_false]
    refine wpAny_bind (wpAny_holding (iter_tuple ht ?_))
    refine wpAny_bind (wpAny_holding (draw_tuple hlt items.size 0 _ _ ⟨_, Heap.get?_push_size _ rfl, rfl, rfl⟩ (ht.push _) (by omega) fun h₁ hit₁ hs₁ => ?_))
    have hall : List.take items.size (List.drop 0 items.toList) = items.toList := by
      rw [List.drop_zero]; exact List.take_of_length_le (by simp)
    rw [hall]
    rw [if_neg (by simp)]
    have ht₁ : IsTup h₁ t items := (ht.push _).extBut hs₁.extBut hlt
    refine wpAny_bind (wpAny_holding (next_tuple_hot (x1 := x1) ⟨hh, o1, vs1, (hs₁.2 x1 hlx).trans (Heap.get?_push_of_some _ h1), d1, c1⟩ hlx hit₁ ht₁ (by simp) fun h₂ he₂ => ?_))
    simp only [Option.isSome_none, Bool.false_eq_true, if_false]
    refine wpAny_pure (hQ h₂ fun b o hb e => he₂ b o hb (hs₁.extBut b o hb (Heap.get?_push_of_some _ e)))
theorem asg_tuple_hot {env : Env} {elts : List Expr} {k : Nat} {pos : Pos} {t x1 : Addr} {items : Array Value} {Q : Unit → Shared → Prop} (hot : HotAt A x1 s.heap) (ht : IsTup s.heap t items)
    (hn : (assignEach elts env).length = items.size) (hstar : (assignEach elts env).findIdx? (·.1) = none)
    (h : ∀ h', Heap.ExtBut s.heap.objs.size s.heap h' → wpAny (model prog w) A (assignInOrder ((assignEach elts env).map (·.2)) items.toList) Q E { s with heap := h' }) :
    wpAny (model prog w) A (assign (.Tuple elts k pos) env (.ref t)) Q E s := by
  rw [PyProof.Rows.assign_Tuple]
  refine wpAny_bind (wpAny_standAt ?_)
  unfold unpack
  rw [hn, hstar]
  exact wpAny_bind (wpAny_holding (unpack_hot hot ht h))
end
/-- the context bears a handled exception; the iterators are other objects -/
def HotX (X : Cx) : Prop := ∀ (pins : List (Addr × Obj)) (σ : L2.St) (H : Hp) (s : Shared), Inv X pins σ H s → ∃ x1, HotAt X.A x1 s.heap ∧ ∀ H' b, FpOk X pins H' b → x1 ≠ b
theorem hotx_of {X : Cx} (c : HotC X) : HotX X := fun pins σ H s I => by
  obtain ⟨p, ⟨hh, v1, e1, c1⟩, hp⟩ := c
  obtain ⟨g, n, _⟩ := I.pin p (List.mem_append_left _ hp)
  exact ⟨p.1, ⟨hh, p.2, v1, g, e1, c1⟩, fun H' b f => f.2.2.2.2.2 p (List.mem_append_left _ hp)⟩
theorem hotx_blk {X : Cx} {pins : List (Addr × Obj)} {σ : L2.St} {H : Hp} {s : Shared} {scope : Scope} {ce : Env} {fp : List Addr} (c : HotC X) (I : Inv X pins σ H s) (hfp : ∀ b ∈ fp, ∃ H', FpOk X pins H' b) : HotX (X.blk s H scope ce fp) := fun pins' σ' H' s' I' => by
  obtain ⟨p, ⟨hh, v1, e1, c1⟩, hp⟩ := c
  obtain ⟨g, n, nl, nf, _⟩ := I.pin p (List.mem_append_left _ hp)
  have nfp : p.1 ∉ fp := fun z => by
    obtain ⟨H2, f⟩ := hfp _ z
    exact f.2.2.2.2.2 p (List.mem_append_left _ hp) rfl
  have nst : p.1 ∉ frs X.stack := fun z => (List.mem_cons.mp (I.stkSub _ z)).elim nl nf
  have g' : s'.heap.get? p.1 = some p.2 := I'.base.keep p.1 p.2 g n nst nfp
  refine ⟨p.1, ⟨hh, p.2, v1, g', e1, c1⟩, fun H2 b f z => ?_⟩
  rcases f.2.2.2.1 with q | q
  · have q : b ∈ fp := q
    exact nfp (by rw [z]; exact q)
  · have q : s.heap.objs.size ≤ b := q
    exact absurd (Heap.lt_size g) (by rw [z]; exact Nat.not_lt.mpr q)
section
variable [WC] {X : Cx} {pos : Pos}
theorem pg_tupH {es : List Expr} {k : Nat} {t : TGs} {n : Nat} (hc : HotX X) (h : PGs X es t)
    (hn : (assignEach es X.env).length = n := by rfl) (hst : (assignEach es X.env).findIdx? (·.1) = none := by rfl) : PG X (.Tuple es k pos) (gTup X.K n t) := by
  refine ⟨fun pins s σ H v u Q I r hw => ?_⟩
  obtain ⟨a, xs, e1, hq, hl, hw⟩ := hw
  subst e1
  cases r
  obtain ⟨its, rv, ht, hz⟩ := I.tuple hq
  obtain ⟨x1, hot, _⟩ := hc pins σ H s I
  refine asg_tuple_hot hot ht (by simp [hn, ← hl, rv.length]) hst fun h' hx => ?_
  have I1 : Inv X pins σ H { s with heap := h' } := I.kept (t' := s.toks) fun b o e => hx b o (Nat.ne_of_lt (Heap.lt_size e)) e
  exact h.run pins _ σ H xs _ Q I1 (by simpa using rv) hw
end
/-! ### the walk of a list -/
structure TurnQ (P : Program) (w : World) (K : PySem.W.Frag) (tg : Expr) (J : It) (fp : List Addr) (it : Addr) (tn : Nat → Heap → Prop) : Prop where
  mem : it ∈ fp
  obj : ∀ i h, tn i h → ∀ b ∈ fp, ∃ o, h.get? b = some o ∧ ∀ v, o.data ≠ .cell v
  keep : ∀ i h h', tn i h → (∀ b ∈ fp, ∀ o, h.get? b = some o → h'.get? b = some o) → tn i h'
  item : ∀ (X : Cx), X.prog = P → X.w = w → X.K = K → HotX X → ∀ (i : Nat) (pins : List (Addr × Obj)) (s : Shared) (σ : L2.St) (H : Hp) (E : Value → Shared → Prop), Inv X pins σ H s → (∀ b ∈ fp, FpOk X pins H b) → tn i s.heap → J.go i H →
    wpAny (model P w) X.A (pyNext (.ref it)) (fun r s1 => ∃ u, r = some u ∧
      wpAny (model P w) X.A (letOwnedTupleGo tg (.ref it) u) (fun _ s2 => ∃ x H', Inv X pins σ H' s2 ∧ RelV x u ∧ J.yld i H x H' ∧ tn (i + 1) s2.heap ∧ ∀ b ∈ fp, H' b = none) E s1) E s
  done : ∀ (X : Cx), X.prog = P → X.w = w → X.K = K → HotX X → ∀ (i : Nat) (pins : List (Addr × Obj)) (s : Shared) (σ : L2.St) (H : Hp) (E : Value → Shared → Prop), Inv X pins σ H s → (∀ b ∈ fp, FpOk X pins H b) → tn i s.heap → J.stop i H →
    wpAny (model P w) X.A (pyNext (.ref it)) (fun r s1 => r = none ∧ Inv X pins σ H s1) E s
  self : ∀ (A : Around) (i : Nat) (s : Shared) (Q : Value → Shared → Prop) (E : Value → Shared → Prop), tn i s.heap → Q (.ref it) s → wpAny (model P w) A (pyIter (.ref it)) Q E s
theorem turnq_list {P : Program} {w : World} {K : PySem.W.Frag} {tg : Expr} (a it : Addr) : TurnQ P w K tg (Itl K a) [it] it (fun i h => h.IsListIter it a i) where
  mem := by simp
  obj := (turn_list (P := P) (w := w) (K := K) (tg := tg) a it).obj
  keep := (turn_list (P := P) (w := w) (K := K) (tg := tg) a it).keep
  item := by
    intro X hP hw hK hc i pins s σ H E I hf st hg
    subst hP hw hK
    obtain ⟨xs, x, hq, hx⟩ := hg
    obtain ⟨its, rv, p, hz⟩ := I.list hq
    obtain ⟨u, hu, ru⟩ := rv.get hx
    obtain ⟨f0, f1, f2, f3, f4, f5⟩ := hf it (by simp)
    refine wpAny_pyNext_list_item st p.isList (x := u) (by simpa using hu) fun h' st' sb => ?_
    have I1 : Inv X pins σ H { s with heap := h' } := I.turned (t' := s.toks) (fun b o hb e => (sb.2 b hb).trans e) f0 f1 f3 f4 f5
    obtain ⟨o, e, c, d⟩ := id st'
    exact ⟨u, rfl, go_of (s := { s with heap := h' }) e c d (by decide) ⟨x, H, I1, ru, ⟨rfl, fun ys hy => by rw [I.list_inj hy hq]; exact hx⟩, st', fun b hb => (hf b hb).1⟩⟩
  done := by
    intro X hP hw hK hc i pins s σ H E I hf st hg
    subst hP hw hK
    obtain ⟨xs, hq, hx⟩ := hg
    obtain ⟨its, rv, p, hz⟩ := I.list hq
    obtain ⟨x1, hot, hne⟩ := hc pins σ H s I
    obtain ⟨f0, f1, f2, f3, f4, f5⟩ := hf it (by simp)
    have hl := rv.length
    exact next_list_hot hot (hne H it (hf it (by simp))) st p.isList (by simp; omega) fun h' eb => ⟨rfl, I.turned (t' := s.toks) (fun b o hb e => eb b o hb e) f0 f1 f3 f4 f5⟩
  self := fun _ _ _ _ _ st h => wpAny_pyIter_listiter st h
def PIEQ (X : Cx) (pins : List (Addr × Obj)) (σ : L2.St) (tg : Expr) (R : It → Hp → Prop) (itv : Value) (s2 : Shared) : Prop :=
  ∃ (it : Addr) (fp : List Addr) (tn : Nat → Heap → Prop) (J : It) (H' : Hp), itv = .ref it ∧ Inv X pins σ H' s2 ∧ TurnQ X.prog X.w X.K tg J fp it tn ∧ tn 0 s2.heap ∧ (∀ b ∈ fp, FpOk X pins H' b) ∧ R J H'
structure PIQ (X : Cx) (tg iter : Expr) (wi : TI) : Prop where
  run : ∀ (pins : List (Addr × Obj)) (s : Shared) (σ : L2.St) (H : Hp) (R : It → Hp → Prop), Inv X pins σ H s → wi σ H R →
    wpAny (model X.prog X.w) X.A (eval iter X.env) (fun v s1 => wpAny (model X.prog X.w) X.A (pyIter v) (PIEQ X pins σ tg R) X.xe s1) X.xe s
theorem piq_list {X : Cx} {tg l : Expr} {tl : TE} (hl : PE X l tl) : PIQ X tg l (iList X.K tl) := by
  refine ⟨fun pins s σ H R I h => ?_⟩
  refine thn (hl.run pins s σ H _ I h) fun v s1 ⟨x, H1, I1, r1, q1⟩ => ?_
  obtain ⟨a, e, ⟨xs, hq⟩, q⟩ := q1
  subst e
  cases r1
  obtain ⟨its, rv, p, hz⟩ := I1.list hq
  refine wpAny_pyIter_list p.isList ?_
  refine ⟨s1.heap.objs.size, [s1.heap.objs.size], _, _, H1, rfl, I1.kept (t' := s1.toks) fun b o e => Heap.get?_push_of_some _ e, turnq_list a _, ⟨_, Heap.get?_push_size _ rfl, rfl, rfl⟩, fun b hb => ?_, q⟩
  have e : b = s1.heap.objs.size := by simpa using hb
  subst e
  exact I1.fpOk (Nat.le_refl _) (I1.hok.fresh (Nat.le_refl _))
end TL

set_option Elab.async false
set_option linter.all false
set_option maxRecDepth 100000
set_option maxHeartbeats 2000000
/-! list comprehensions where an exception is handled (statement and proof follow HandS's lc_core, the iterator's end told for a handled exception). -/
namespace TL
open PySem PySem.Spec PyProof.Rows L2 HotX L2H
section
variable [WC] {X : Cx}
theorem lc_hot {pins : List (Addr × Obj)} {s : Shared} {σ : L2.St} {H : Hp} {Q : VK} {elt tg iter : Expr} {ifs : List Expr} {scope : Scope} {own : List (Str × Nat)} {pos pos' : Pos} {wi : TI} {g : TG} {tt : TT} {te : TE} {use : Option (Value → Sem Unit)} {Qf : Value → Shared → Prop}
    (hc : HotC X) (hN : X.N.Nodup) (I : Inv X pins σ H s) (hi : PIQ X tg iter wi) (ok : BlkOk X.N X.env.scope scope own)
    (hg : ∀ (s : Shared) (H : Hp) (C : Addr) (cl : List (Str × Addr)) (fp : List Addr), HotX (X.blk s H scope (compEnvC scope cl C X.env) fp) → PG (X.blk s H scope (compEnvC scope cl C X.env) fp) tg g) (ht : ∀ (s : Shared) (H : Hp) (C : Addr) (cl : List (Str × Addr)) (fp : List Addr), PTs (X.blk s H scope (compEnvC scope cl C X.env) fp) ifs tt)
    (he : ∀ (s : Shared) (H : Hp) (C : Addr) (cl : List (Str × Addr)) (fp : List Addr), PE (X.blk s H scope (compEnvC scope cl C X.env) fp) elt te) (hs : ∀ x, foldedSetIterable iter X.env x = pure x)
    (h : tLc wi g tt te (own.map (·.2)) σ H Q)
    (hRR : ∀ D C s' m H', Inv X pins σ H' s' → Q (.ref D) H' → s'.heap.Ns C m → FpOk X pins H' C → compPost (model X.prog X.w) X.A X.xe use Qf (.ref D) C (.ok .next) s') :
    wpAny (model X.prog X.w) X.A (comprehension (.ListComp elt [⟨tg, iter, ifs, 0⟩] scope pos) scope X.env pos' (newList []) false (eval iter X.env) use) Qf X.xe s := by
  have hfree : ∀ y ∈ scope.names, y.2 = .free → ∃ c, X.env.cells.lookup y.1 = some c := fun y hy e => by
    rcases ok.free y hy e with k | k
    · exact I.ok.has _ (.inl k)
    · exact I.ok.has _ (.inr k)
  refine wpAny_comprehension_free (use := use) rfl hs (closure_ok hfree) ok.kind (fun y hy e => by rw [ok.uniq y hy, e])
    (thn (hi.run pins s σ H _ I h) fun xv s1 hx => thn hx fun itv s2 h2 => ?_)
  obtain ⟨it, fp, tn, J, H2, e, I2, T, st2, f2, q⟩ := h2
  subst e
  refine wpAny_newObj_type (newEnv_comp ?_) (by show 0 ≤ sizeLine; decide)
  generalize hD : s2.heap.objs.size = D
  have hDn : H2 D = none := I2.hok.fresh (Nat.le_of_eq hD)
  obtain ⟨W, ⟨m0, w0⟩, turn⟩ := q D hDn
  -- the new list
  generalize hs3 : ({ s2 with heap := s2.heap.push { cls := .type "list", data := .seq ([] : List Value).toArray } } : Shared) = s3
  have I3 : Inv X pins σ (upd H2 D (.lst [])) s3 := by
    rw [← hs3]
    refine I2.laid (t' := s2.toks) (fun b o e => Heap.get?_push_of_some _ e) (Nat.le_of_eq hD) ⟨Nat.zero_le _, [], 0, .nil, ?_⟩
    rw [← hD]
    exact Heap.get?_push_size _ rfl
  have h3 : s3.heap = s2.heap.push { cls := .type "list", data := .seq ([] : List Value).toArray } := by rw [← hs3]
  have sz : ∀ b ∈ fp, b < s2.heap.objs.size := fun b hb => by
    obtain ⟨o, e, _⟩ := T.obj _ _ st2 b hb
    exact Heap.lt_size e
  have f3 : ∀ b ∈ fp, FpOk X pins (upd H2 D (.lst [])) b ∧ b < s3.heap.objs.size := fun b hb => by
    have hlt := sz b hb
    refine ⟨⟨?_, (f2 b hb).2⟩, by rw [h3, Heap.size_push]; exact Nat.lt_succ_of_lt hlt⟩
    rw [upd_ne (by rw [← hD]; exact Nat.ne_of_lt hlt)]
    exact (f2 b hb).1
  have st3 : tn 0 s3.heap := T.keep _ _ _ st2 fun b _ o e => by rw [h3]; exact Heap.get?_push_of_some _ e
  have I4 := block_start I3 ok hN f3
  have hq' : ∀ ce, HotX (X.blk s3 (upd H2 D (.lst [])) scope ce fp) := fun ce => hotx_blk hc I3 fun b hb => ⟨_, (f3 b hb).1⟩
  have pg := hg s3 (upd H2 D (.lst [])) s3.heap.objs.size (cellsFrom (s3.heap.objs.size + 1) scope.names (cloFrom X.env.cells scope.names [])) fp (hq' _)
  have pt := ht s3 (upd H2 D (.lst [])) s3.heap.objs.size (cellsFrom (s3.heap.objs.size + 1) scope.names (cloFrom X.env.cells scope.names [])) fp
  have pe := he s3 (upd H2 D (.lst [])) s3.heap.objs.size (cellsFrom (s3.heap.objs.size + 1) scope.names (cloFrom X.env.cells scope.names [])) fp
  show codeAny _ _ (.compStart (.ListComp elt [⟨tg, iter, ifs, 0⟩] scope pos) 0 (.ref it) (.ref D) (compEnvC scope (cellsFrom (s3.heap.objs.size + 1) scope.names (cloFrom X.env.cells scope.names [])) s3.heap.objs.size X.env)) (compPost (model X.prog X.w) X.A X.xe use Qf (.ref D) s3.heap.objs.size) { s3 with heap := pushCells (s3.heap.push { cls := .type "dict", data := .dict #[] }) scope.names }
  have nfp : ∀ b ∈ fp, (upd H2 D (.lst [])) b = none := fun b hb => (f3 b hb).1.1
  generalize hce : compEnvC scope (cellsFrom (s3.heap.objs.size + 1) scope.names (cloFrom X.env.cells scope.names [])) s3.heap.objs.size X.env = ce at I4 pg pt pe ⊢
  have cL : ce.locals = s3.heap.objs.size := by subst hce; rfl
  generalize hH3 : upd H2 D (.lst []) = H3 at I3 I4 pg pt pe w0 nfp f3 hq'
  generalize hs4 : ({ s3 with heap := pushCells (s3.heap.push { cls := .type "dict", data := .dict #[] }) scope.names } : Shared) = s4 at I4 ⊢
  have st4 : tn 0 s4.heap := T.keep _ _ _ st3 fun b _ o e => by rw [← hs4]; exact pushCells_keeps _ _ _ _ (Heap.get?_push_of_some _ e)
  have stat : ∀ {σ' : L2.St} {H' : Hp} {s' : Shared}, Inv (X.blk s3 H3 scope ce fp) [] σ' H' s' → (∀ b ∈ fp, H' b = none) → ∀ b ∈ fp, FpOk (X.blk s3 H3 scope ce fp) [] H' b := fun {σ' H' s'} I' hn b hb =>
    ⟨hn b hb, (I'.ok.exf b hb).1, I'.ok.exfs b hb, .inl hb, fun x c e => (I'.ok.exf b hb).2 x c e, fun p hp => absurd (show p ∈ ([] : List (Addr × Obj)) ++ [] from hp) (by simp)⟩
  have loop : codeAny (model X.prog X.w) X.A (.compLoop (.ListComp elt [⟨tg, iter, ifs, 0⟩] scope pos) 0 (.ref it) (.ref D) ce) (compPost (model X.prog X.w) X.A X.xe use Qf (.ref D) s3.heap.objs.size) s4 := by
    refine compLoop_any (fun n s' => ∃ i H', Inv (X.blk s3 H3 scope ce fp) [] (wipe σ (own.map (·.2))) H' s' ∧ tn i s'.heap ∧ (∀ b ∈ fp, H' b = none) ∧ W i n H') ?_ m0 ⟨0, H3, I4, st4, nfp, w0⟩
    rintro n s5 ⟨i, H5, I5, st5, n5, w5⟩
    rcases turn i n H5 w5 with ⟨stop, qq⟩ | ⟨go, Nx, hNx, step⟩
    · have td := T.done (X.blk s3 H3 scope ce fp) rfl rfl rfl (hq' ce) i [] s5 _ H5 (fun _ _ => False) I5 (stat I5 n5) st5 stop
      refine thnF td fun r s6 ⟨hr, I6⟩ => ?_
      subst hr
      -- back in the def's context
      have I7 : Inv X pins σ H5 s6 := I3.call' (ch := fp) I6.os I6.base I6.hok I6.bare fun b hb => ⟨(f3 b hb).1.2.2.2.1, (f3 b hb).1.2.1, (f3 b hb).1.2.2.2.2.1, (f3 b hb).1.2.2.2.2.2⟩
      have nC : H5 s3.heap.objs.size = none := by
        have z : H5 ce.locals = none := I6.free
        rw [cL] at z
        exact z
      obtain ⟨m, hn, _⟩ := I6.loc
      have hn : s6.heap.Ns ce.locals m := hn
      rw [cL] at hn
      exact hRR D s3.heap.objs.size s6 m H5 I7 qq hn (I3.fpOk (Nat.le_refl _) nC)
    · have ti := T.item (X.blk s3 H3 scope ce fp) rfl rfl rfl (hq' ce) i [] s5 _ H5 (fun _ _ => False) I5 (stat I5 n5) st5 go
      refine thnF ti fun r s6 ⟨u, hr, h6⟩ => ?_
      subst hr
      refine thnF h6 fun _ s7 ⟨x, H7, I7, r7, y7, st7, n7⟩ => ?_
      have I7' := I7.pinned (stat I7 n7) (T.obj _ _ st7)
      refine thnF (pg.run _ s7 _ H7 x u _ I7' r7 (step x H7 y7)) fun _ s8 ⟨σ8, H8, I8, hw8, q8⟩ => ?_
      refine thnF (pt.run _ s8 σ8 H8 _ I8 q8) fun b s9 ⟨H9, I9, q9⟩ => ?_
      -- the turn's end
      have fin : ∀ {s' : Shared} {H' : Hp}, Inv (X.blk s3 H3 scope ce fp) ([] ++ pinsAt fp s7.heap) σ8 H' s' → Nx H' → ∃ m, m < n ∧ ∃ i H', Inv (X.blk s3 H3 scope ce fp) [] (wipe σ (own.map (·.2))) H' s' ∧ tn i s'.heap ∧ (∀ b ∈ fp, H' b = none) ∧ W i m H' := fun {s' H'} I' nx => by
        obtain ⟨m', hm, w'⟩ := hNx H' nx
        have pin' : ∀ b ∈ fp, ∀ o, s7.heap.get? b = some o → s'.heap.get? b = some o ∧ H' b = none := fun b hb o e =>
          let z := I'.pin (b, o) (List.mem_append_right _ (List.mem_append_right _ (mem_pinsAt hb e)))
          ⟨z.1, z.2.1⟩
        have hl : (wipe σ (own.map (·.2))).length = σ8.length := by rw [← hw8, wipe_length]
        refine ⟨m', hm, i + 1, H', (I'.unpinned (pins := [])).weak hl (fun j v e => ?_), T.keep _ _ _ st7 fun b hb o e => (pin' b hb o e).1, fun b hb => ?_, w'⟩
        · rw [← hw8] at e
          exact (wipe_some e).1
        · obtain ⟨o, e, _⟩ := T.obj _ _ st7 b hb
          exact (pin' b hb o e).2
      cases b with
      | false =>
        simp only [Bool.false_eq_true, if_false] at q9 ⊢
        exact fin I9 q9
      | true =>
        simp only [if_true] at q9 ⊢
        refine thnF (pe.run _ s9 σ8 H9 _ I9 q9) fun z s10 ⟨yv, H10, I10, r10, acc, hD10, hz10, nx⟩ => ?_
        exact app_ok (X := X.blk s3 H3 scope ce fp) I10 hD10 hz10 r10 fun s11 I11 => fin I11 nx
  exact codeAny_compStart_list loop (T.self X.A 0 _ _ _ st4 loop)
theorem pe_lcH {elt tg iter : Expr} {ifs : List Expr} {scope : Scope} {own : List (Str × Nat)} {pos : Pos} {wi : TI} {g : TG} {tt : TT} {te : TE} (hc : HotC X) (hN : X.N.Nodup) (hi : PIQ X tg iter wi) (ok : BlkOk X.N X.env.scope scope own)
    (hg : ∀ (s : Shared) (H : Hp) (C : Addr) (cl : List (Str × Addr)) (fp : List Addr), HotX (X.blk s H scope (compEnvC scope cl C X.env) fp) → PG (X.blk s H scope (compEnvC scope cl C X.env) fp) tg g) (ht : ∀ (s : Shared) (H : Hp) (C : Addr) (cl : List (Str × Addr)) (fp : List Addr), PTs (X.blk s H scope (compEnvC scope cl C X.env) fp) ifs tt)
    (he : ∀ (s : Shared) (H : Hp) (C : Addr) (cl : List (Str × Addr)) (fp : List Addr), PE (X.blk s H scope (compEnvC scope cl C X.env) fp) elt te) (hs : ∀ x, foldedSetIterable iter X.env x = pure x := by intro _; rfl) :
    PE X (.ListComp elt [⟨tg, iter, ifs, 0⟩] scope pos) (tLc wi g tt te (own.map (·.2))) := by
  refine ⟨fun pins s σ H Q I h => ?_⟩
  rw [eval_ListComp]
  refine lc_hot hc hN I hi ok hg ht he hs h fun D C s' m H' I' q hn f => ⟨m, hn, fun h'' sb => ?_⟩
  obtain ⟨f0, f1, f2, f3, f4, f5⟩ := f
  exact ⟨.ref D, H', I'.turned (t' := s'.toks) (fun b o hb e => (sb.2 b hb).trans e) f0 f1 f3 f4 f5, rfl, q⟩
theorem ps_setLcH {i : Nat} {y : Str} {py : Pos} {elt tg iter : Expr} {ifs : List Expr} {scope : Scope} {own : List (Str × Nat)} {pos spos : Pos} {wi : TI} {g : TG} {tt : TT} {te : TE} (hc : HotC X) (hN : X.N.Nodup) (hy : X.N[i]? = some y) (hyl : X.env.scope.names.lookup y = some .local)
    (hsw : swapsWith (.ListComp elt [⟨tg, iter, ifs, 0⟩] scope pos) (some (.Name y py)) spos.line X.env = pure true) (hi : PIQ X tg iter wi) (ok : BlkOk X.N X.env.scope scope own)
    (hg : ∀ (s : Shared) (H : Hp) (C : Addr) (cl : List (Str × Addr)) (fp : List Addr), HotX (X.blk s H scope (compEnvC scope cl C X.env) fp) → PG (X.blk s H scope (compEnvC scope cl C X.env) fp) tg g) (ht : ∀ (s : Shared) (H : Hp) (C : Addr) (cl : List (Str × Addr)) (fp : List Addr), PTs (X.blk s H scope (compEnvC scope cl C X.env) fp) ifs tt)
    (he : ∀ (s : Shared) (H : Hp) (C : Addr) (cl : List (Str × Addr)) (fp : List Addr), PE (X.blk s H scope (compEnvC scope cl C X.env) fp) elt te) (hs : ∀ x, foldedSetIterable iter X.env x = pure x := by intro _; rfl) :
    PS X (.Assign [.Name y py] (.ListComp elt [⟨tg, iter, ifs, 0⟩] scope pos) spos) (tAsg (tLc wi g tt te (own.map (·.2))) (gName i)) := by
  refine ⟨fun pins s σ H D I h => ?_⟩
  rw [exec_Assign_Name_used _ _ _ _ hsw]
  refine wpAny_bind (wpAny_standAt (wpAny_bind ?_))
  show wpAny _ X.A (do let _ ← comprehension (.ListComp elt [⟨tg, iter, ifs, 0⟩] scope pos) scope X.env (firstIterPos [⟨tg, iter, ifs, 0⟩] pos) (newList []) false (eval iter X.env) (some (assign (.Name y py) X.env))) _ _ s
  have h : tLc wi g tt te (own.map (·.2)) σ H (fun x H1 => gName i x σ H1 D.nx) := h
  refine wpAny_bind (thn (lc_hot (Qf := fun _ s' => SP X pins D .next s') hc hN I hi ok hg ht he hs h fun L C s' m H' I' q hn f => ?_) fun _ s' hq => wpAny_pure (wpAny_pure hq))
  show wpAny _ _ (assign (.Name y py) X.env (.ref L)) _ _ _
  refine wpAny_assign_Name (store_ok2 (v := V.ref L) I' hN hy (.inl hyl) rfl (fun s2 I2 ⟨a, sb, ha⟩ => ?_) (.inr hyl))
  obtain ⟨f0, f1, f2, f3, f4, f5⟩ := f
  have haC : C ≠ a := by
    rcases ha with z | z
    · rw [z]; exact f1
    · exact fun e => f4 y a z e.symm
  refine ⟨m, hn.sameBut sb haC, fun h3 sb3 => ?_⟩
  exact ⟨_, H', I2.turned (t' := s2.toks) (fun b o hb e => (sb3.2 b hb).trans e) f0 f1 f3 f4 f5, q⟩
end
section
variable [WC] {X : Cx} {S : Sx} {W : WX} {elt tg iter c : Expr} {ifs : List Expr} {m : DE} {t : DT} {pos : Pos} {bd : D → Ev → Option Ev} {bds : List D → Ev → Option Ev} {is : List Nat} {it : DI} {own : List (Str × Nat)} {scope : Scope} {es : List Expr}
theorem sg_tupH {kk : Nat} {n : Nat} (hc : HotX X) (h : PGs X es (tGs X.K X.mg S bds is)) (hn : (assignEach es X.env).length = n := by rfl) (hst : (assignEach es X.env).findIdx? (·.1) = none := by rfl) : PG X (.Tuple es kk pos) (tG X.K X.mg S (bTup n bds) is) := PG_imp (pg_tupH hc h hn hst) fun v σ H Q ⟨F, G, P, ev, d, ev', M, r, e, k⟩ => by
  cases d with
  | tuple ds =>
    have e : (if ds.length = n then bds ds ev else none) = some ev' := e
    by_cases hl : ds.length = n
    · rw [if_pos hl] at e
      simp only [Rp] at r
      obtain ⟨a, vs, rfl, q, rs⟩ := r
      exact ⟨a, vs, rfl, SqT_mono M.fr.fh q, by rw [← rs.len]; exact hl, F, G, P, ev, ds, ev', M, rs, e, k⟩
    · rw [if_neg hl] at e; cases e
  | _ => cases e
/-- a list's content, as what is walked -/
def iLst (m : DE) : DI := fun ev => (m ev).bind fun p => (toVal p.1 p.2).bind fun q => match q.1 with
  | .list ds => .ok (ds, q.2)
  | _ => .stuck
theorem sj_lstH (he : PE X iter (tE X.K X.mg S W m)) : PIQ X tg iter (tIt X.K X.mg S W (iLst m)) := by
  have h0 := piq_list (tg := tg) he
  refine ⟨fun pins s σ H R I h => h0.run pins s σ H R I ?_⟩
  obtain ⟨F, G, P, ev, M, h⟩ := h
  refine ⟨F, G, P, ev, M, h.bind.imp fun rv ev1 F1 H1 _ s1 M1 h1 v r => ?_⟩
  obtain ⟨d, ev2, F2, _, s2, M2, r2, h1⟩ := tM.val M1 r h1
  cases d with
  | list ds =>
    simp only [Rp] at r2
    obtain ⟨a, vs, rfl, q, rs⟩ := r2
    exact ⟨a, rfl, ⟨vs, .inl (Rd_mono M2.fr.fh q)⟩, h1 F2 H1 (Same.refl _) M2 _ (serves_list q rs)⟩
  | _ => exact False.elim h1
theorem so_compH (hc : HotC X) (hN : X.N.Nodup) (hi : PIQ X tg iter (tIt X.K X.mg S W it)) (ok : BlkOk X.N X.env.scope scope own)
    (hg : ∀ (s : Shared) (H : Hp) (C : Addr) (cl : List (Str × Addr)) (fp : List Addr), HotX (X.blk s H scope (compEnvC scope cl C X.env) fp) → PG (X.blk s H scope (compEnvC scope cl C X.env) fp) tg (tG X.K X.mg S bd is)) (ht : ∀ (s : Shared) (H : Hp) (C : Addr) (cl : List (Str × Addr)) (fp : List Addr), PTs (X.blk s H scope (compEnvC scope cl C X.env) fp) ifs (tT X.K X.mg S W0 t))
    (he : ∀ (s : Shared) (H : Hp) (C : Addr) (cl : List (Str × Addr)) (fp : List Addr), PE (X.blk s H scope (compEnvC scope cl C X.env) fp) elt (tE X.K X.mg S W0 m)) (hv : ∀ v ∈ own.map (·.2), S.own v = false ∧ S.io v = false := by decide) (hsub : ∀ v ∈ is, v ∈ own.map (·.2) := by decide) (hs : ∀ x, foldedSetIterable iter X.env x = pure x := by intro _; rfl) :
    PE X (.ListComp elt [⟨tg, iter, ifs, 0⟩] scope pos) (tO X.K X.mg S W (oComp it (own.map (·.2)) bd t m)) := (pe_lcH hc hN hi ok hg ht he hs).imp fun _ _ _ h => core_comp hv hsub h
theorem sx_compH (i : Nat) {y : Str} {py spos : Pos} (hc : HotC X) (hN : X.N.Nodup) (hi : PIQ X tg iter (tIt X.K X.mg S W it)) (ok : BlkOk X.N X.env.scope scope own)
    (hg : ∀ (s : Shared) (H : Hp) (C : Addr) (cl : List (Str × Addr)) (fp : List Addr), HotX (X.blk s H scope (compEnvC scope cl C X.env) fp) → PG (X.blk s H scope (compEnvC scope cl C X.env) fp) tg (tG X.K X.mg S bd is)) (ht : ∀ (s : Shared) (H : Hp) (C : Addr) (cl : List (Str × Addr)) (fp : List Addr), PTs (X.blk s H scope (compEnvC scope cl C X.env) fp) ifs (tT X.K X.mg S W0 t))
    (he : ∀ (s : Shared) (H : Hp) (C : Addr) (cl : List (Str × Addr)) (fp : List Addr), PE (X.blk s H scope (compEnvC scope cl C X.env) fp) elt (tE X.K X.mg S W0 m)) (hv : ∀ v ∈ own.map (·.2), S.own v = false ∧ S.io v = false := by decide) (hsub : ∀ v ∈ is, v ∈ own.map (·.2) := by decide) (h1 : S.own i = false := by rfl) (h2 : S.io i = false := by rfl)
    (hy : X.N[i]? = some y := by rfl) (hyl : X.env.scope.names.lookup y = some .local := by rfl) (hsw : swapsWith (.ListComp elt [⟨tg, iter, ifs, 0⟩] scope pos) (some (.Name y py)) spos.line X.env = pure true := by exact sw_true rfl rfl rfl (by decide +kernel)) (hs : ∀ x, foldedSetIterable iter X.env x = pure x := by intro _; rfl) :
    PS X (.Assign [.Name y py] (.ListComp elt [⟨tg, iter, ifs, 0⟩] scope pos) spos) (tS X.K X.mg S W (sSet i (vOf (oComp it (own.map (·.2)) bd t m)))) := (ps_setLcH hc hN hy hyl hsw hi ok hg ht he hs).imp fun Dn σ H ⟨F, G, P, ev, M, h⟩ => by
  show tLc _ _ _ _ _ σ H _
  refine core_comp hv hsub ⟨F, G, P, ev, M, ?_⟩
  unfold sSet vOf at h
  rw [Res.bind_assoc] at h
  refine h.bind.imp fun d ev1 F1 H1 _ s1 M1 h3 a o f => ?_
  obtain ⟨F2, s2, M2, r⟩ := M1.freeze o f
  exact h3 F2 H1 _ s2 (M2.setv h1 h2 r)
end
end TL

set_option Elab.async false
set_option linter.all false
set_option maxRecDepth 100000
set_option maxHeartbeats 2000000
/-! sep.join; isinstance(e, C); a def that calls the lambda it got and tells what it raised. -/
namespace TL
open PySem PySem.Spec PyProof.Rows L2 HotX L2H
/-! ### sep.join(texts) -/
def strsOf : List D → Option (List Str)
  | [] => some []
  | .str x :: ds => (strsOf ds).map (x :: ·)
  | _ => none
theorem strsOf_some : ∀ {ds : List D} {ys : List Str}, strsOf ds = some ys → ds = ys.map PyData.str
  | [], _, h => by cases h; rfl
  | .str x :: ds, ys, h => by
    obtain ⟨zs, e, rfl⟩ := Option.map_eq_some_iff.mp (show (strsOf ds).map (x :: ·) = some ys from h)
    rw [strsOf_some e]; rfl
theorem Rps.strs [WC] {K : PySem.W.Frag} {mg : Str → Option Value} {F : Hp} : ∀ {ys : List Str} {vs : List V}, Rps K mg F (ys.map PyData.str) vs → vs = ys.map V.str
  | [], vs, h => by simpa [Rps] using h
  | n :: ns, vs, h => by
    simp only [List.map_cons, Rps, Rp] at h
    obtain ⟨v, r, rfl, rfl, q⟩ := h
    rw [Rps.strs q]; rfl
def seqO : D → Option (List D)
  | .list ds => some ds
  | .tuple ds => some ds
  | _ => none
def toStr : D → Option Str
  | .str a => some a
  | _ => none
def gJoin (a : Str) (d : D) : Option D := (seqO d).bind fun ds => (strsOf ds).bind fun ys => if (ys.map (·.length)).sum + ys.length * a.length ≤ 16777216 then some (.str (Txt.join a ys)) else none
def eJoin (ma mb : DE) : DE := fun ev => (ma ev).bind fun p => (lift ((p.1.get p.2).bind toStr)).bind fun a => (mb p.2).bind fun q => (lift (q.1.get q.2)).bind fun d => (lift (gJoin a d)).bind fun r => .ok (.val r, q.2)
section
variable [WC] {X : Cx} {S : Sx} {W : WX} {o e : Expr} {ma mb : DE}
theorem sd_join {apos pos : Pos} (ho : PE X o (tE X.K X.mg S W ma)) (he : PE X e (tE X.K X.mg S W mb)) (hs : starEach [e] X.env = [(false, eval e X.env)] := by rfl) (hbase : attributeBase o "join" X.env (eval o X.env) = eval o X.env := by rfl) (hline : (apos.endLine == pos.line) = true := by rfl) :
    PE X (.Call (.Attribute o "join" apos) [e] [] pos) (tE X.K X.mg S W (eJoin ma mb)) := (pe_join ho he hs hbase hline).imp fun σ H Q ⟨F, G, P, ev, M, h⟩ => by
  refine ⟨F, G, P, ev, M, h.bind.imp fun r1 ev1 F1 H1 _ s1 M1 h1 v rv => ?_⟩
  obtain ⟨a, e1, h1⟩ := h1.lift
  obtain ⟨x, e0, e1⟩ := Option.bind_eq_some_iff.mp e1
  cases x with
  | str a' =>
    cases e1
    have hv := (M1.acc rv e0).str
    refine ⟨⟨_, hv⟩, F1, G, P, ev1, M1, h1.bind.imp fun r2 ev2 F2 H2 _ s2 M2 h2 u ru => ?_⟩
    obtain ⟨y, e2, h2⟩ := h2.lift
    obtain ⟨d, e3, h3⟩ := h2.lift
    obtain ⟨ds, q1, e4⟩ := Option.bind_eq_some_iff.mp e3
    obtain ⟨ys, q2, e5⟩ := Option.bind_eq_some_iff.mp e4
    clear e3 e4
    have := strsOf_some q2
    subst this
    split at e5
    · rename_i hz
      cases e5
      cases y with
      | list zs =>
        cases q1
        obtain ⟨p, vs, rfl, hp, hr⟩ := (M2.acc ru e2).list
        rw [Rps.strs hr] at hp
        exact ⟨_, p, ys, hv, rfl, .inl (.inl hp), hz, h3 F2 H2 (Same.refl _) M2 _ (rp_str (K := X.K) (mg := X.mg) (F := F2) _)⟩
      | tuple zs =>
        cases q1
        obtain ⟨p, vs, rfl, hp, hr⟩ := (M2.acc ru e2).tuple
        rw [Rps.strs hr] at hp
        exact ⟨_, p, ys, hv, rfl, .inr (SqT_mono M2.fr.fh hp), hz, h3 F2 H2 (Same.refl _) M2 _ (rp_str (K := X.K) (mg := X.mg) (F := F2) _)⟩
      | _ => cases q1
    · cases e5
  | _ => cases e1
end
/-! ### isinstance(e, C), e the exception that the suite holds -/
def gIsE (a : Addr) (b : Str → Option Bool) : List D → Option D
  | [.dict [(.dict [], .int n)], .dict [(.dict [], .str c)]] => if n = (a : Nat) then (b c).map PyData.bool else none
  | _ => none
theorem call_isD [WC] {X : Cx} {a Dc : Addr} {oe : Obj} {pn : List (Addr × Obj)} {b : Str → Option Bool} (C : ExcC X.K Dc) (hz : Zc (.ref Dc) none oe) (hf : ∃ vs, oe.data = .fields vs)
    (hb : ∀ c f k, b c = some k → X.mg c = some (.ref f) → PySem.W.kitOne X.K (.ref Dc) (.ref f) = some k) : CallR (X.suite a ((a, oe) :: pn)) (.builtin "isinstance") (rVs X.K X.mg (gIsE a b)) := by
  intro pins s σ H xs us Q I r h
  refine call_isE (X := X) C hz hf pins s σ H xs us Q I r ?_
  obtain ⟨F, ds, d, sm, hl, rq, e, k⟩ := h
  unfold gIsE at e
  split at e
  · rename_i n c
    split at e
    · rename_i hn
      obtain ⟨kb, e1, rfl⟩ := Option.map_eq_some_iff.mp e
      obtain ⟨x, y, rfl⟩ : ∃ x y, xs = [x, y] := by
        match xs, hl with
        | [x, y], _ => exact ⟨x, y, rfl⟩
      have q1 : Rq X.K X.mg F H (.dict [(.dict [], .int n)]) x := rq 0 _ _ rfl rfl
      have q2 : Rq X.K X.mg F H (.dict [(.dict [], .str c)]) y := rq 1 _ _ rfl rfl
      rcases q1 with (⟨_, _, z, _⟩ | ⟨a2, z, rfl⟩ | ⟨_, _, z, _⟩) | ⟨_, _, _, _, _, z, _⟩
      · cases z
      rotate_left
      · cases z
      · simp only [Rkv, Rk1, keyD] at z
        obtain ⟨_, _, _, ⟨⟨_, z, _⟩, _⟩, _⟩ := z
        cases z
      rcases q2 with (⟨x2, f2, z2, rfl, hm⟩ | ⟨_, z2, _⟩ | ⟨_, _, z2, _⟩) | ⟨_, _, _, _, _, z, _⟩
      rotate_right
      · simp only [Rkv, Rk1, keyD] at z
        obtain ⟨_, _, _, ⟨⟨_, z, _⟩, _⟩, _⟩ := z
        cases z
      · cases z2
        have ea : a2 = a := by
          have : (.int n : D) = .int (a2 : Nat) := by
            have := congrArg (fun l => (l.head?.map Prod.snd)) z
            simpa using this
          injection this with this
          rw [hn] at this
          exact (Int.ofNat.inj this).symm
        subst ea
        exact ⟨.ref f2, .ref f2, kb, rfl, fun u r => r, hb c f2 kb e1 hm, k F H _ (Grow.refl _ _) (rp_bool (K := X.K) (mg := X.mg) (F := F) kb)⟩
      · cases z2
      · cases z2
    · cases e
  · cases e
end TL

set_option Elab.async false
set_option linter.all false
set_option maxRecDepth 100000
set_option maxHeartbeats 2000000
/-! a def that calls the lambda it got and tells what it raised. -/
namespace TL
open PySem PySem.Spec PyProof.Rows L2 HotX L2H LamX
abbrev E0 : XK := fun _ _ _ => False
/-- the lambda's body, its exceptions without context -/
def lamN (X : Cx) (A : Around) (outer : List Env) (s : Shared) (H : Hp) (E : XK) (scope : Scope) (f c' : Addr) : Cx :=
  (lamCx X A outer s H E scope f c').tr [] (fun e s' => wpAny (model X.prog X.w) (A.deeper (lamEnv X scope s.heap.objs.size f c')) (leaving (lamEnv X scope s.heap.objs.size f c') e) (fun _ s'' => L2N.CX X.prog X.w outer H s E e s'') (fun e' s'' => L2N.CX X.prog X.w outer H s E e' s'') s')
theorem lamN_takes {X : Cx} {A : Around} {outer : List Env} {s : Shared} {H : Hp} {E : XK} {scope : Scope} {f c' : Addr} : L2N.Takes (lamN X A outer s H E scope f c') (fun cls d _ H => E cls d H) :=
  L2N.takes_of (X := lamN X A outer s H E scope f c') (E := E) rfl rfl rfl rfl
/-- x(), in the def that got the lambda -/
theorem pe_actN {X : Cx} {pins : List (Addr × Obj)} {σ : L2.St} {H : Hp} {s : Shared} {Eg : XK} {Ng : List Str} {qg : Str} {sg : Scope} {g f c' : Addr} {cdg pm ctv : Value} {params : Arguments} {body : Expr} {scope : Scope} {k i : Nat} {a : Str} {pn : List (Addr × Obj)} {xe : Value → Shared → Prop} {W : WX} {E : XK} {tb : TE} {p1 p2 : Pos} {σ0 : L2.St}
    (I : Inv X pins σ H s) (L : LamS X.env.scope scope) (hf : s.heap.get? f = some (PySem.W.kla_obj "<lambda>" (X.env.qual ++ "<lambda>") params body scope (cloFrom X.env.cells scope.names []) pm c' ctv)) (hfn : H f = none) (hfr : f ∉ frs X.stack)
    (hbind : bindArgs (PySem.W.kla_fn "<lambda>" (X.env.qual ++ "<lambda>") params body scope (cloFrom X.env.cells scope.names []) pm (.ref c') ctv) ⟨[], []⟩ = pure [])
    (tk : L2N.Takes ((cxOf (L2N.CX X.prog X.w) X.prog X.w X.K X.mg X.base Ng qg sg g cdg X.A X.stack s H Eg).tr pn xe) W) (hW : ∀ cls d H', E cls d H' → W cls d σ0 H') (hr : Room (k + 1) (X.A.deeper (envOfC qg sg s.heap.objs.size g cdg)))
    (hbody : ∀ (A : Around) (outer : List Env) (s : Shared) (H : Hp), Room k (A.deeper (lamEnv X scope s.heap.objs.size f c')) → PE (lamN X A outer s H E scope f c') body tb)
    (hN : Ng[i]? = some a) (hv : Vis sg a) (hd : (a == ("__debug__" : Str)) = false := by decide) (hcd : (a == ("__classdict__" : Str)) = false := by decide) :
    PE ((cxOf (L2N.CX X.prog X.w) X.prog X.w X.K X.mg X.base Ng qg sg g cdg X.A X.stack s H Eg).tr pn xe) (.Call (.Name a p1) [] [] p2)
      (fun σZ HZ Q => σZ = σ0 ∧ σZ[i]? = some (some (.ref f)) ∧ HZ c' = some (CodeO c' (X.env.qual ++ "<lambda>")) ∧ tb σ HZ Q) := by
  refine ⟨fun pinsZ sZ σZ HZ Q IZ h => ?_⟩
  obtain ⟨hz0, hs, hc, ht⟩ := h
  refine wpAny_Call_Name_kw (thn ((pe_var (pos := p1) (i := i) hN hv hd hcd).run pinsZ sZ σZ HZ (fun v H1 => v = .ref f ∧ H1 = HZ) IZ ⟨.ref f, hs, rfl, rfl⟩) fun u s1 ⟨v, H1, I1, r1, q1⟩ => ?_)
  obtain ⟨ev, eH⟩ := q1
  subst ev
  rw [eH] at I1
  obtain rfl : u = Value.ref f := r1
  have of1 : s1.heap.get? f = some (PySem.W.kla_obj "<lambda>" (X.env.qual ++ "<lambda>") params body scope (cloFrom X.env.cells scope.names []) pm c' ctv) := I1.base.keep f _ hf hfn hfr (fun z => nomatch (show f ∈ ([] : List Addr) from z))
  refine PySem.W.callWith_F0 ⟨_, _, _, _, of1⟩ ?_
  have un : Un (frs X.stack) [] H HZ s.heap s1.heap := I1.base
  obtain ⟨⟨oc, vs, t, hoc, hdc, hvc⟩, _, _⟩ := I1.hok c' _ hc
  have rc : codeAny (model X.prog X.w) (X.A.deeper (envOfC qg sg s.heap.objs.size g cdg)) (.call (.ref f) ⟨[], []⟩) (CR (L2N.CX X.prog X.w) (envOfC qg sg s.heap.objs.size g cdg :: X.stack) X.prog X.w HZ s1 Q E) s1 := by
    refine PySem.W.kla_callFunE hr.depth of1 rfl L.co L.gen rfl ⟨c', oc, vs, t, rfl, hoc, hdc, hvc⟩ ?_
    rw [hbind]
    refine wpAny_pure (wpAny_newFunctionEnv (fun y hy => (L.own y hy).2) (fun y hy => absurd hy (by simp)) (fun h₁ hns hsb => ⟨I1.nolimit.fresh _ hsb, ?_⟩) L.kind)
    show codeAny _ _ (.expr body (lamEnv X scope s1.heap.objs.size f c')) _ _
    have kp : ∀ b o, s1.heap.get? b = some o → h₁.get? b = some o := fun b o e => hsb.extBut b o (Nat.ne_of_lt (Heap.lt_size e)) (Heap.get?_push_of_some _ e)
    have J0 : Inv (lamCx X (X.A.deeper (envOfC qg sg s.heap.objs.size g cdg)) (envOfC qg sg s.heap.objs.size g cdg :: X.stack) s1 HZ E scope f c') [] σ HZ { s1 with heap := h₁, toks := s1.toks + ([] : List (Str × Value)).length } :=
      lam_start2 I L I1.env0 hr.hd un hns kp
    have J : Inv (lamN X (X.A.deeper (envOfC qg sg s.heap.objs.size g cdg)) (envOfC qg sg s.heap.objs.size g cdg :: X.stack) s1 HZ E scope f c') [] σ HZ { s1 with heap := h₁, toks := s1.toks + ([] : List (Str × Value)).length } := J0.toTry _
    refine PySem.W.kla_codeExpr (wpAny_mono ((hbody _ _ s1 HZ (hr.deeper _)).run [] _ _ HZ Q J ht) (fun v s' hq => ?_) fun e s' hq => hq)
    obtain ⟨w', H', J', rv, q⟩ := hq
    exact ⟨w', H', J'.os, J'.bare, J'.base, J'.hok, rv, q⟩
  refine wpAny_call (codeAny_mono rc fun r s' hq => ?_)
  cases r with
  | error e =>
    refine tk e s' (L2N.XE.of_call (X := (cxOf (L2N.CX X.prog X.w) X.prog X.w X.K X.mg X.base Ng qg sg g cdg X.A X.stack s H Eg).tr pn xe) I1 (fun cls d H' h => ?_) hq)
    rw [hz0]
    exact hW cls d H' h
  | ok fl =>
    cases fl with
    | ret u => exact I1.after hq
    | next => exact False.elim hq
    | brk => exact False.elim hq
    | cont => exact False.elim hq
/-- the def that calls what it got -/
def GivesN (X : Cx) (Ng : List Str) (x : Str) (sg : Scope) (g : Addr) (cdg : Value) (bg : List Stmt) (a : Str) (q : Str) (TT : (XK → Hp → VK → Prop) → Hp → VK → Prop) : Prop :=
  ∀ (f c' : Addr) (s : Shared) (H : Hp) (Q : VK) (tl : XK → Hp → VK → Prop),
    (∀ (W : WX) (pn : List (Addr × Obj)) (xe : Value → Shared → Prop) (E : XK) (σ0 : L2.St) (p1 p2 : Pos), L2N.Takes ((cxOf (L2N.CX X.prog X.w) X.prog X.w X.K X.mg X.base Ng x sg g cdg X.A X.stack s H E0).tr pn xe) W → (∀ cls d H', E cls d H' → W cls d σ0 H') →
      PE ((cxOf (L2N.CX X.prog X.w) X.prog X.w X.K X.mg X.base Ng x sg g cdg X.A X.stack s H E0).tr pn xe) (.Call (.Name a p1) [] [] p2) (fun σZ HZ Q => σZ = σ0 ∧ σZ[0]? = some (some (.ref f)) ∧ HZ c' = some (CodeO c' q) ∧ tl E HZ Q)) →
    H c' = some (CodeO c' q) → (X.A.deeper (envOfC x sg s.heap.objs.size g cdg)).units + 64 < cLine → TT tl H Q →
    ∃ t, PSs (cxOf (L2N.CX X.prog X.w) X.prog X.w X.K X.mg X.base Ng x sg g cdg X.A X.stack s H E0) bg t ∧ t { nx := fun _ H' => Q .non H', rt := Q } (L2.start Ng [.ref f]) H
/-- x(lambda: body) -/
theorem pe_lamN {X : Cx} {T : List (Addr × Str)} {TT : (XK → Hp → VK → Prop) → Hp → VK → Prop} {x a : Str} {g c P : Addr} {k : Nat} {pg : Arguments} {bg : List Stmt} {sg : Scope} {dV kV doc pm cdv ct oc : Value} {an od : Option Addr} {osl : Array (Option Value)} {Ng : List Str}
    {params : Arguments} {body : Expr} {scope : Scope} {t : XK → TE} {p lpos pos : Pos} (hg : Gl X x) (hm : X.mg x = some (.ref g)) (hk : PySem.W.keepIn X.K (.ref g) = true)
    (lk : X.K.lookup g = some ⟨oc, od, .func (PySem.W.fnOf x x pg bg sg dV kV doc pm an cdv ct), osl⟩) (hcg : PySem.W.codeIn X.K cdv x = true) (hb : L2.Binds X.K (PySem.W.fnOf x x pg bg sg dV kV doc pm an cdv ct) [a] []) (Sg : FnScope Ng [a] sg) (hNg : Ng[0]? = some a) (hva : Vis sg a)
    (hG : GivesN X Ng x sg g cdv bg a (X.env.qual ++ "<lambda>") TT)
    (TB : TabB X.base X.mg c P) (hcode : X.env.code = .ref c) (hmT : (P, X.env.qual ++ "<lambda>") ∈ T) (hu : ∀ p ∈ T, p.1 = P → p.2 = X.env.qual ++ "<lambda>") (hr : Room (k + 2) X.A) (L : LamS X.env.scope scope) (hdef : defaultsOf params X.env = ([], []))
    (hbind : ∀ (q : Str) (cl : List (Str × Addr)) (pm cv ctv : Value), bindArgs (PySem.W.kla_fn "<lambda>" q params body scope cl pm cv ctv) ⟨[], []⟩ = pure [])
    (hbody : ∀ (A : Around) (outer : List Env) (s : Shared) (H : Hp) (E : XK) (f c' : Addr), Room k (A.deeper (lamEnv X scope s.heap.objs.size f c')) → PE (lamN X A outer s H E scope f c') body (t E))
    (hdb : (x == ("__debug__" : Str)) = false := by decide) (hd : (a == ("__debug__" : Str)) = false := by decide) (hcd : (a == ("__classdict__" : Str)) = false := by decide) :
    PE X (.Call (.Name x p) [.Lambda params body scope lpos] [] pos) (tLam T TT t) := by
  refine ⟨fun pins s σ H Q I h => ?_⟩
  obtain ⟨hT, h⟩ := h
  refine wpAny_Call_Name_kw (ld_glob I hg hm ?_ hdb)
  refine PySem.W.callWith_K (h₀ := X.base) I.ok.mod.kin hk ?_ (by rfl) (by rfl)
  show wpAny _ _ (spliced ((false, eval (.Lambda params body scope lpos) X.env) :: backTo pos (starEach [] X.env))) _ _ s
  refine Calls.spliced_cons (lam_make2 I TB hcode hmT hu hT hdef (L.has I.ok) fun f c' pm' ctv H1 s' I1 eN T1 hf hfn hfr hco => ?_)
  refine Calls.spliced_nil ⟨I1.kIn, ?_⟩
  have rc : codeAny (model X.prog X.w) X.A (.call (.ref g) ⟨[.ref f], []⟩) (CR (L2N.CX X.prog X.w) X.stack X.prog X.w H1 s' Q E0) s' := by
    refine run_ofS (N := Ng) (ps := [a]) (us := [.ref f]) (vs := [.ref f]) lk hcg Sg hr I1.env0 (hb s' [.ref f] I1.kIn rfl) (.cons rfl .nil) rfl fun hr' => ?_
    exact hG f c' s' H1 Q (fun E H' Q' => t E σ H' Q') (fun W pn xe E σ0 p1 p2 tk hW => pe_actN (i := 0) I1 L hf hfn hfr (hbind _ _ _ _ _) tk hW hr' (fun A outer s H hr2 => hbody A outer s H E f c' hr2) hNg hva hd hcd) hco (by have := hr'.un; omega) (h H1 eN T1)
  refine wpAny_call (codeAny_mono rc fun r s2 hq => ?_)
  cases r with
  | error e =>
    obtain ⟨_, _, _, _, _, _, _, _, _, _, _, _, z⟩ := hq
    exact z.elim
  | ok fl =>
    cases fl with
    | ret u => exact I1.after hq
    | next => exact False.elim hq
    | brk => exact False.elim hq
    | cont => exact False.elim hq
end TL

set_option Elab.async false
set_option linter.all false
set_option maxRecDepth 100000
set_option maxHeartbeats 2000000
/-! try: call() / except C as e: .. / return word. -/
namespace TL
open PySem PySem.Spec PyProof.Rows L2 HotX L2H LamX
/-- what the def tells: dflt if nothing was raised, else the word of the class -/
def TTf (mg : Str → Option Value) (dflt : Str) (wd : Str → Option Str) : (XK → Hp → VK → Prop) → Hp → VK → Prop := fun tl H Q => ∃ F G, Frm [] F G H ∧
  tl (fun cls d H' => ∃ (F' : Hp) (c : Str) (Dc : Addr) (w : Str), Same F F' ∧ Frm [] F' G H' ∧ cls = .ref Dc ∧ d = none ∧ mg c = some (.ref Dc) ∧ wd c = some w ∧ ∀ F2 H2, Same F' F2 → Frm [] F2 G H2 → Q (.str w) H2) H (fun _ H' => Q (.str dflt) H')
theorem takesN0 {X : Cx} : L2N.Takes X W0 := fun _ _ x => by
  obtain ⟨_, _, _, _, _, _, _, _, _, _, _, _, _, _, _, _, z⟩ := x
  exact z.elim
abbrev failX (X : Cx) (Ng : List Str) (x : Str) (sg : Scope) (g : Addr) (cdg : Value) (s : Shared) (H : Hp) : Cx := cxOf (L2N.CX X.prog X.w) X.prog X.w X.K X.mg X.base Ng x sg g cdg X.A X.stack s H E0
def ev0 (n ie : Nat) (ad : Addr) : Ev := (List.replicate n none).set ie (some (adD ad))
theorem ev0_some {n ie i : Nat} {ad : Addr} {d : D} (h : (ev0 n ie ad)[i]? = some (some d)) : i = ie ∧ d = adD ad := by
  rcases set_get h with ⟨rfl, e⟩ | ⟨_, e⟩
  · cases e; exact ⟨rfl, rfl⟩
  · have := List.mem_of_getElem? e
    rw [List.mem_replicate] at this
    exact absurd this.2.symm (by simp)
theorem fails_gives [WC] {X : Cx} {Ng : List Str} {x a e q CT dflt : Str} {sg : Scope} {g CTa : Addr} {ie : Nat} {cdg : Value} {wd : Str → Option Str} {SG : Sx} {b₀ : Stmt} {suite : List Stmt} {ms : Addr → Str → DS} {j : Nat} {p1 p2 p3 p4 p5 p6 p7 p8 : Pos}
    (hge : sg.names.lookup CT = some .globalImplicit) (hme : X.mg CT = some (.ref CTa)) (hde : (CT == ("__debug__" : Str)) = false) (hN : Ng.Nodup) (hie : Ng[ie]? = some e) (hle : sg.names.lookup e = some .local) (hl1 : 1 ≤ Ng.length)
    (h0 : ∀ f : Addr, (L2.start Ng [V.ref f])[0]? = some (some (V.ref f))) (hST : SG.T = []) (hSe : SG.own ie = false)
    (hex : ∀ c Dc w, wd c = some w → X.mg c = some (.ref Dc) → PySem.W.exmOne X.K (.ref Dc) (.ref CTa) = some true)
    (hms : ∀ ad c w, wd c = some w → ∃ ev', ms ad c (ev0 Ng.length ie ad) = .ok (.rt (.str w), ev'))
    (hsu : ∀ (s : Shared) (H : Hp) (ad : Addr) (oe : Obj) (c : Str) (Dc : Addr) (w : Str) (pn : List (Addr × Obj)), wd c = some w → X.mg c = some (.ref Dc) → Zc (.ref Dc) none oe → (∃ vs, oe.data = .fields vs) → HotC ((failX X Ng x sg g cdg s H).suite ad ((ad, oe) :: pn)) → ((failX X Ng x sg g cdg s H).suite ad ((ad, oe) :: pn)).A.units + 64 < cLine →
      PSs ((failX X Ng x sg g cdg s H).suite ad ((ad, oe) :: pn)) (b₀ :: suite) (tS X.K X.mg SG W0 (ms ad c)))
    (hsw : ∀ (s : Shared) (H : Hp), swapsWith (.Call (.Name a p1) [] [] p2) none p3.line (failX X Ng x sg g cdg s H).env = pure false := by intro _ _; rfl) :
    GivesN X Ng x sg g cdg [.Try [.Expr (.Call (.Name a p1) [] [] p2) p3] [.ExceptHandler (some (.Name CT p4)) (some e) (b₀ :: suite) p7] [] [] p8, .Return (some (.Constant (.str dflt) j p5)) p6] a q (TTf X.mg dflt wd) := by
  intro f c' s H Q tl act hc hus h
  obtain ⟨F, G, fr, h⟩ := h
  have hgl : Gl (failX X Ng x sg g cdg s H) CT := hge
  refine ⟨_, pss_cons (L2N.ps_try_as (X := failX X Ng x sg g cdg s H) (c := .ref CTa) (i := ie)
    (tb := fun W D σ H => ∃ Ech : XK, (∀ cls d H', Ech cls d H' → W cls d σ H') ∧ σ[0]? = some (some (.ref f)) ∧ H c' = some (CodeO c' q) ∧ tl Ech H (fun _ H' => D.nx σ H'))
    (ts := fun ad cls d Dn σ H => ∃ c Dc w, wd c = some w ∧ X.mg c = some (.ref Dc) ∧ cls = .ref Dc ∧ d = none ∧ tS X.K X.mg SG W0 (ms ad c) Dn σ H)
    rfl rfl hN hie hle ⟨hgl, hde, .inl hme⟩ takesN0 (fun W pn xe tk _ => pss_one ⟨fun pins s' σ H' D I h' => ?_⟩) (fun ad oe cls d pn hz hf => ⟨fun pins s' σ H' D I h' => ?_⟩)) (pss_one (ps_ret pe_str)), ?_⟩
  · obtain ⟨Ech, hW, h1, h2, h3⟩ := h'
    exact (ps_expr (act W pn xe Ech σ p1 p2 tk hW) (hsw s H)).run pins s' σ H' D I ⟨rfl, h1, h2, h3⟩
  · obtain ⟨c, Dc, w, e1, e2, rfl, rfl, h3⟩ := h'
    refine (hsu s H ad oe c Dc w pn e1 e2 hz.zc hf ?_ hus).run pins s' σ H' D I h3
    obtain ⟨vs, hv⟩ := hf
    exact ⟨(ad, oe), ⟨rfl, vs, hv, hz.2.2 vs hv⟩, List.mem_cons_self⟩
  · refine ⟨_, fun cls d H' hh => ?_, h0 f, hc, h⟩
    obtain ⟨F', c, Dc, w, s1, fr1, rfl, rfl, e1, e2, k⟩ := hh
    refine ⟨true, hex c Dc w e2 e1, fun _ ad _ => ⟨c, Dc, w, e2, e1, rfl, rfl, F', G, fun _ => none, ev0 Ng.length ie ad, ?_, ?_⟩, fun z => nomatch z⟩
    · have hlen : (L2.start Ng [V.ref f]).length = Ng.length := by unfold L2.start; simp; omega
      refine ⟨by rw [hST]; exact fr1, by unfold ev0; rw [List.length_set, List.length_replicate, List.length_set, hlen], fun i d ho e3 => ?_, fun i d ho e3 => ?_, fun i i2 d d2 b ho ho2 hn e3 e4 => ?_, fun i b z => nomatch z⟩
      · obtain ⟨rfl, rfl⟩ := ev0_some e3
        refine ⟨.ref ad, ?_, ?_⟩
        · exact List.getElem?_set_self (by rw [hlen]; exact (List.getElem?_eq_some_iff.mp hie).1)
        · simp only [adD, Rp]; exact .inl (.inr (.inl ⟨ad, rfl, rfl⟩))
      · obtain ⟨rfl, rfl⟩ := ev0_some e3
        rw [hSe] at ho; cases ho
      · obtain ⟨rfl, rfl⟩ := ev0_some e3
        rw [hSe] at ho; cases ho
    · obtain ⟨ev', e3⟩ := hms ad c w e2
      rw [e3]
      intro F2 H2 σ2 s2 M2 v r
      have : v = .str w := by simpa only [Rp] using r
      subst this
      exact k F2 H2 s2 (by have := M2.fr; rw [hST] at this; exact this)
/-! ### the call with a lambda -/
def wipeO (own : Nat → Bool) (ev : Ev) : Ev := ev.mapIdx fun i o => bif own i then none else o
theorem wipeO_some {own : Nat → Bool} {ev : Ev} {i : Nat} {d : D} (h : (wipeO own ev)[i]? = some (some d)) : own i = false ∧ ev[i]? = some (some d) := by
  unfold wipeO at h
  rw [List.getElem?_mapIdx] at h
  obtain ⟨o, e1, e2⟩ := Option.map_eq_some_iff.mp h
  cases q : own i with
  | true => rw [q] at e2; cases e2
  | false => rw [q] at e2; exact ⟨rfl, by rw [e1]; exact congrArg some e2⟩
def eFails (own : Nat → Bool) (dflt : Str) (wd : Str → Option Str) (mb : DE) : DE := fun ev => match mb (wipeO own ev) with
  | .ok _ => .ok (.val (.str dflt), ev)
  | .err c => (lift (wd c)).bind fun w => .ok (.val (.str w), ev)
  | .stuck => .stuck
abbrev S0 : Sx := ⟨fun _ => false, fun _ => false, []⟩
section
variable [WC] {K : PySem.W.Frag} {mg : Str → Option Value} {S : Sx} {W : WX} {F G H H1 : Hp} {P : Nat → Option Addr} {ev : Ev} {σ : L2.St}
theorem Sim.extN (M : Sim K mg S F G P H ev σ) (hT : S.T ≠ []) (e : ExtN H H1) (t : Tabs S.T H1) : Sim K mg S F G P H1 ev σ where
  fr := ⟨fun a o h => e a o (M.fr.fh _ _ h) fun ps z => M.fr.nt a ps (by rw [← z]; exact h), fun a o h => e a o (M.fr.gh _ _ h) fun ps z => M.fr.gt hT a ps (by rw [← z]; exact h), M.fr.gf, M.fr.nt, M.fr.gt, t⟩
  len := M.len
  sl := M.sl
  so := fun i d h q => by
    obtain ⟨a, e1, o, f0, g0⟩ := M.so i d h q
    refine ⟨a, e1, ?_, f0, g0⟩
    obtain ⟨u, w1, w2⟩ := o.there
    exact o.at (Same.refl _) fun u' y => by rw [w1] at y; cases y; exact e _ _ w1 w2
  sp := M.sp
  pn := M.pn
theorem core_fails {dflt : Str} {wd : Str → Option Str} {mb : DE} {Q : VK} (hT : S.T ≠ []) (h : tE K mg S W (eFails S.own dflt wd mb) σ H Q) : tLam S.T (TTf mg dflt wd) (fun E => tE K mg S0 (fun cls d _ H => E cls d H) mb) σ H Q := by
  obtain ⟨F, G, P, ev, M, h⟩ := h
  refine ⟨M.fr.tb, fun H1 eN T1 => ?_⟩
  have M1 := M.extN hT eN T1
  obtain ⟨G0, hG0⟩ : ∃ G0 : Hp, ∀ a, (∀ o, F a = some o → G0 a = none) ∧ (F a = none → G0 a = H1 a) := by
    refine ⟨fun a => match F a with | some _ => none | none => H1 a, fun a => ⟨fun o e => ?_, fun e => ?_⟩⟩
    · simp only [e]
    · simp only [e]
  have g0 : ∀ a o, G0 a = some o → F a = none ∧ H1 a = some o := fun a o e => by
    cases q : F a with
    | none => exact ⟨rfl, by rw [← (hG0 a).2 q]; exact e⟩
    | some u => rw [(hG0 a).1 u q] at e; cases e
  have fr0 : Frm [] F G0 H1 := ⟨M1.fr.fh, fun a o e => (g0 a o e).2, fun a o e => (hG0 a).1 o e, M1.fr.nt, fun z => absurd rfl z, fun p hp => absurd hp (by simp)⟩
  have gr : ∀ F' H', Same F F' → Frm [] F' G0 H' → Grow F H1 F' H' := fun F' H' s fr => by
    refine ⟨s, fun a o e => ?_, fun a o e => ?_⟩
    · cases q : F a with
      | none => exact fr.gh a o (by rw [(hG0 a).2 q]; exact e)
      | some u =>
        have := M1.fr.fh a u q
        rw [e] at this; cases this
        exact fr.fh a _ (s a _ q)
    · cases q : F a with
      | some u =>
        have := s a u q
        rw [e] at this; cases this
        exact .inl rfl
      | none =>
        refine .inr ⟨?_, fr.fh a o e, fun ps z => fr.nt a ps (by rw [← z]; exact e)⟩
        rw [← (hG0 a).2 q]
        exact fr.gf a o e
  refine ⟨F, G0, fr0, F, G0, fun _ => none, wipeO S.own ev, ⟨fr0, ?_, fun i d _ e => ?_, fun i d z => (Bool.noConfusion z), fun i j d d2 b z => (Bool.noConfusion z), fun i b z => (nomatch z)⟩, ?_⟩
  · unfold wipeO; rw [List.length_mapIdx]; exact M1.len
  · obtain ⟨h1, h2⟩ := wipeO_some e
    exact M1.sl i d h1 h2
  · unfold eFails at h
    cases q : mb (wipeO S.own ev) with
    | stuck => rw [q] at h; exact h
    | ok p =>
      rw [q] at h
      intro F' H' s M' v r
      exact h F' H' s (M1.grow (gr F' H' s M'.fr)) _ (rp_str (K := K) (mg := mg) (F := F') _)
    | err c =>
      rw [q] at h
      simp only at h
      obtain ⟨w, e1, h⟩ := tM.lift h
      intro F' H' s fr f hf
      exact ⟨F', c, f, w, s, fr, rfl, rfl, hf, e1, fun F2 H2 s2 fr2 => h F2 H2 (s.trans s2) (M1.grow (gr F2 H2 (s.trans s2) fr2)) _ (rp_str (K := K) (mg := mg) (F := F2) _)⟩
end
end TL

set_option Elab.async false
set_option linter.all false
set_option maxRecDepth 100000
set_option maxHeartbeats 2000000
/-! the module's defs by names. -/
namespace TL
open PySem PySem.Spec PyProof.Rows L2 HotX L2H LamX
/-- the def of the name x keeps the meaning f -/
structure DefOk (P : Program) (w : World) [WC] (K : PySem.W.Frag) (mg : Str → Option Value) (base : Heap) (k : Nat) (x : Str) (T' : List (Addr × Str)) (f : FnS) : Prop where
  ex : ∃ (fa : Addr) (fd : FuncData) (ps : List Str), mg x = some (.ref fa) ∧ PySem.W.keepIn K (.ref fa) = true ∧ Binds K fd ps [] ∧ FnOk P w K mg base (L2N.CX P w) k fa fd ps (spF K mg T' f)
abbrev FnP (K : PySem.W.Frag) (x : Str) (st : Stmt) : Prop := ∃ fd, FunD K x x (defArgs st) (defBody st) (defScope st) [] [] (He.ga K x) fd
section
variable [WC] {P : Program} {w : World} {K : PySem.W.Frag} {mg : Str → Option Value} {base : Heap} {x : Str} {T' : List (Addr × Str)} {f : FnS} {k j : Nat} {st : Stmt}
theorem DefOk.mono (D : DefOk P w K mg base j x T' f) (h : j ≤ k) : DefOk P w K mg base k x T' f := by
  obtain ⟨fa, fd, ps, h1, h2, h3, h4⟩ := D.ex
  exact ⟨fa, fd, ps, h1, h2, h3, h4.mono h⟩
/-- the def's context -/
abbrev dX (P : Program) (w : World) (K : PySem.W.Frag) (mg : Str → Option Value) (base : Heap) (N : List Str) (x : Str) (st : Stmt) (A : Around) (outer : List Env) (s : Shared) (H : Hp) (E : XK) : Cx := cxOf (L2N.CX P w) P w K mg base N x (defScope st) (He.ga K x) (.ref (He.codeOf K (x, none))) A outer s H E
theorem dX_takes {N : List Str} {A : Around} {outer : List Env} {s : Shared} {H : Hp} {E : XK} : L2N.Takes (dX P w K mg base N x st A outer s H E) (fun cls d _ H => E cls d H) := L2N.takes_of (X := dX P w K mg base N x st A outer s H E) (E := E) rfl rfl rfl rfl
theorem def_okF {N ps : List Str} {m : DS} {io : Option Nat} {ro : Bool} {S : Sx} {fd : FuncData} (Fd : FunD K x x (defArgs st) (defBody st) (defScope st) [] [] (He.ga K x) fd) (SC : FnScope N ps (defScope st)) (hN : ps.length ≤ N.length) (hio : ∀ i, i < ps.length → (S.own i = true ↔ io = some i)) (hio2 : ∀ i, io = some i → S.io i = true ∧ i < ps.length)
    (hb : ∀ (A : Around) (outer : List Env) (s : Shared) (H : Hp) (E : XK), Room k (dX P w K mg base N x st A outer s H E).A → PSs (dX P w K mg base N x st A outer s H E) (defBody st) (tS K mg S (fun cls d _ H => E cls d H) m)) :
    FnOk P w K mg base (L2N.CX P w) (k + 1) (He.ga K x) fd ps (spF K mg S.T ⟨ps.length, io, ro, bodyM N.length io ro m⟩) := by
  obtain ⟨oc, od, dV, kV, doc, pm, an, cdv, ct, osl, rfl, lk, hcd, _, _⟩ := Fd.ex
  obtain ⟨c, rfl⟩ := He.codeIn_ref hcd
  have hc := He.codeOf_eq (p := (x, none)) lk rfl
  exact fn_ok lk hcd SC hN hio hio2 fun A outer s H E hr => by
    have := hb A outer s H E (by show Room k (A.deeper _); rw [hc]; exact hr)
    unfold dX at this
    rw [hc] at this
    exact this
theorem def_ok {N ps : List Str} {m : DS} {io : Option Nat} {ro : Bool} {S : Sx} (hm : mg x = some (.ref (He.ga K x))) (Fn : FnP K x st) (SC : FnScope N ps (defScope st)) (hN : ps.length ≤ N.length) (hio : ∀ i, i < ps.length → (S.own i = true ↔ io = some i)) (hio2 : ∀ i, io = some i → S.io i = true ∧ i < ps.length)
    (hbind : ∀ (kV doc pm : Value) (an : Option Addr) (cdv ct : Value) (us : List Value), us.length = ps.length → bindArgs (PySem.W.fnOf x x (defArgs st) (defBody st) (defScope st) .none kV doc pm an cdv ct) ⟨us, []⟩ = pure (ps.zip us))
    (hb : ∀ (A : Around) (outer : List Env) (s : Shared) (H : Hp) (E : XK), Room k (dX P w K mg base N x st A outer s H E).A → PSs (dX P w K mg base N x st A outer s H E) (defBody st) (tS K mg S (fun cls d _ H => E cls d H) m)) :
    DefOk P w K mg base (k + 1) x S.T ⟨ps.length, io, ro, bodyM N.length io ro m⟩ := by
  obtain ⟨fd, Fd⟩ := Fn
  exact ⟨_, fd, ps, hm, Fd.kp, Fd.bindsN hbind, def_okF Fd SC hN hio hio2 hb⟩
theorem def_stuck {np : Nat} {io : Option Nat} {ro : Bool} (hm : mg x = some (.ref (He.ga K x))) (Fn : FnP K x st) {ps : List Str} (hp : ps.length = np)
    (hbind : ∀ (kV doc pm : Value) (an : Option Addr) (cdv ct : Value) (us : List Value), us.length = ps.length → bindArgs (PySem.W.fnOf x x (defArgs st) (defBody st) (defScope st) .none kV doc pm an cdv ct) ⟨us, []⟩ = pure (ps.zip us)) :
    DefOk P w K mg base k x T' ⟨np, io, ro, fun _ => .stuck⟩ := by
  obtain ⟨fd, Fd⟩ := Fn
  exact ⟨_, fd, ps, hm, Fd.kp, Fd.bindsN hbind, fun vs H Q E ⟨F, G, ds, _, e, _⟩ => by rw [hp]; exact e, fun A outer s H args us vs Q E _ _ _ _ ⟨F, G, ds, _, _, _, z⟩ => z.elim⟩
end
section
variable [WC] {X : Cx} {S : Sx} {W : WX} {e : Expr} {es : List Expr} {ms : DA} {pos p : Pos} {x : Str} {f : FnS} {k : Nat} {T' : List (Addr × Str)}
theorem sd_cal (D : DefOk X.prog X.w X.K X.mg X.base k x T' f) (tk : L2N.Takes X W) (hr : Room k X.A) (hT : T' = [] ∨ T' = S.T) (hg : Gl X x)
    (ha : PA X (e :: es) (tA X.K X.mg S W ms)) (hro : f.ro = false := by rfl) (hdb : (x == ("__debug__" : Str)) = false := by decide) (he : starEach (e :: es) X.env = (false, eval e X.env) :: starEach es X.env := by rfl) (hpl : (backTo pos (starEach es X.env)).any (·.1) = false := by rfl) :
    PE X (.Call (.Name x p) (e :: es) [] pos) (tE X.K X.mg S W (eCall f (chkN f.np ms))) := by
  obtain ⟨fa, fd, ps, h1, h2, h3, h4⟩ := D.ex
  exact sd_call tk h4 hr hT hg h1 h2 h3 ha hro hdb he hpl
theorem so_cal (D : DefOk X.prog X.w X.K X.mg X.base k x T' f) (tk : L2N.Takes X W) (hr : Room k X.A) (hT : T' = [] ∨ T' = S.T) (hg : Gl X x)
    (ha : PA X (e :: es) (tA X.K X.mg S W ms)) (hro : f.ro = true := by rfl) (hdb : (x == ("__debug__" : Str)) = false := by decide) (he : starEach (e :: es) X.env = (false, eval e X.env) :: starEach es X.env := by rfl) (hpl : (backTo pos (starEach es X.env)).any (·.1) = false := by rfl) :
    PE X (.Call (.Name x p) (e :: es) [] pos) (tO X.K X.mg S W (oCallF f (chkN f.np ms))) := by
  obtain ⟨fa, fd, ps, h1, h2, h3, h4⟩ := D.ex
  exact so_call tk h4 hr hT hg h1 h2 h3 ha hro hdb he hpl
/-- a slot's def called -/
def fnOfD : D → Option Str
  | .dict [(.dict [], .str x)] => some x
  | _ => none
def eCallV (i : Nat) (tbl : Str → Option FnS) (ms : DA) : DE := fun ev => (lift (((ev[i]?).join.bind fnOfD).bind tbl)).bind fun f => if f.ro = false then eCall f (chkN f.np ms) ev else .stuck
theorem sd_calV (i : Nat) {tbl : Str → Option FnS} {E : XK} (hD : ∀ y f, tbl y = some f → ∃ T', DefOk X.prog X.w X.K X.mg X.base k y T' f ∧ (T' = [] ∨ T' = S.T)) (tk : L2N.Takes X (fun cls d _ H => E cls d H)) (hr : Room k X.A)
    (ha : PA X (e :: es) (tA X.K X.mg S (fun cls d _ H => E cls d H) ms)) (ho : S.own i = false := by rfl) (hN : X.N[i]? = some x := by rfl) (hv : Vis X.env.scope x := by first | exact Or.inl rfl | exact Or.inr (Or.inl rfl) | exact Or.inr (Or.inr rfl)) (hd : (x == ("__debug__" : Str)) = false := by decide)
    (hcd : (x == ("__classdict__" : Str)) = false := by decide) (he : starEach (e :: es) X.env = (false, eval e X.env) :: starEach es X.env := by rfl) (hpl : (backTo pos (starEach es X.env)).any (·.1) = false := by rfl) :
    PE X (.Call (.Name x p) (e :: es) [] pos) (tE X.K X.mg S (fun cls d _ H => E cls d H) (eCallV i tbl ms)) := by
  refine ⟨fun pins s σ H Q I h => ?_⟩
  obtain ⟨F, G, P, ev, M, h⟩ := h
  obtain ⟨f, e1, h2⟩ := h.lift
  obtain ⟨y, e2, e3⟩ := Option.bind_eq_some_iff.mp e1
  obtain ⟨d, e4, e5⟩ := Option.bind_eq_some_iff.mp e2
  obtain ⟨hro, h3⟩ := h2.cond
  obtain ⟨T', D, hT⟩ := hD y f e3
  obtain ⟨fa, fd, ps, g1, g2, g3, g4⟩ := D.ex
  obtain ⟨v, e6, r⟩ := M.sl i d ho (join_some e4)
  have hd' : d = fnD y := by
    unfold fnOfD at e5
    split at e5
    · cases e5; rfl
    · cases e5
  subst hd'
  simp only [fnD, Rp] at r
  rcases r with (⟨x2, f2, z, rfl, hm⟩ | ⟨_, z, _⟩ | ⟨_, _, z, _⟩) | ⟨_, _, _, _, _, z, _⟩
  · have : x2 = y := by
      have := congrArg (fun l => l.head?.map Prod.snd) z
      simp at this
      exact this.symm
    subst this
    rw [g1] at hm
    cases hm
    refine (pe_callL (i := i) (E := E) (dvs := []) g4 hr hN hv g2 g3 .nil (L2N.passes_call tk fun _ _ _ _ h => h) ha hd hcd he hpl).run pins s σ H Q I ⟨e6, ?_⟩
    have h4 := core_fn (σ := σ) (H := H) (Q := Q) (W := fun cls d _ H => E cls d H) hT hro ⟨F, G, P, ev, M, h3⟩
    have e0 : (fun (vs : List V) (H1 : Hp) => spF X.K X.mg T' f (vs ++ []) H1 Q E) = fun vs H1 => spF X.K X.mg T' f vs H1 Q E := by
      funext vs H1
      rw [List.append_nil]
    rw [e0]
    exact h4
  · cases z
  · cases z
  · simp only [Rkv, Rk1, keyD] at z
    obtain ⟨_, _, _, ⟨⟨_, z, _⟩, _⟩, _⟩ := z
    cases z
end
/-! ### a def that tells what a lambda raised -/
structure FailsOk (P : Program) (w : World) [WC] (K : PySem.W.Frag) (mg : Str → Option Value) (base : Heap) (x a : Str) (dflt : Str) (wd : Str → Option Str) : Prop where
  ex : ∃ (g : Addr) (pg : Arguments) (bg : List Stmt) (sg : Scope) (dV kV doc pm cdv ct oc : Value) (an od : Option Addr) (osl : Array (Option Value)) (Ng : List Str), mg x = some (.ref g) ∧ PySem.W.keepIn K (.ref g) = true ∧ K.lookup g = some ⟨oc, od, .func (PySem.W.fnOf x x pg bg sg dV kV doc pm an cdv ct), osl⟩ ∧
    PySem.W.codeIn K cdv x = true ∧ L2.Binds K (PySem.W.fnOf x x pg bg sg dV kV doc pm an cdv ct) [a] [] ∧ FnScope Ng [a] sg ∧ Ng[0]? = some a ∧ Vis sg a ∧ ∀ (X : Cx) (q : Str), X.prog = P → X.w = w → X.K = K → X.mg = mg → X.base = base → GivesN X Ng x sg g cdv bg a q (TTf mg dflt wd)
section
variable [WC] {X : Cx} {S : Sx} {W : WX} {pos p lpos : Pos} {x a dflt : Str} {wd : Str → Option Str} {k : Nat} {c P : Addr} {params : Arguments} {body : Expr} {scope : Scope} {mb : DE}
theorem sd_fails (D : FailsOk X.prog X.w X.K X.mg X.base x a dflt wd) (hg : Gl X x) (TB : TabB X.base X.mg c P) (hcode : X.env.code = .ref c) (hmT : (P, X.env.qual ++ "<lambda>") ∈ S.T) (hu : ∀ p ∈ S.T, p.1 = P → p.2 = X.env.qual ++ "<lambda>") (hr : Room (k + 2) X.A) (L : LamS X.env.scope scope)
    (hbody : ∀ (A : Around) (outer : List Env) (s : Shared) (H : Hp) (E : XK) (f c' : Addr), Room k (lamN X A outer s H E scope f c').A → PE (lamN X A outer s H E scope f c') body (tE X.K X.mg S0 (fun cls d _ H => E cls d H) mb))
    (hdef : defaultsOf params X.env = ([], []) := by rfl)
    (hbind : ∀ (q : Str) (cl : List (Str × Addr)) (pm cv ctv : Value), bindArgs (PySem.W.kla_fn "<lambda>" q params body scope cl pm cv ctv) ⟨[], []⟩ = pure [] := by intro _ _ _ _ _; rfl)
    (hdb : (x == ("__debug__" : Str)) = false := by decide) (hd : (a == ("__debug__" : Str)) = false := by decide) (hcd : (a == ("__classdict__" : Str)) = false := by decide) :
    PE X (.Call (.Name x p) [.Lambda params body scope lpos] [] pos) (tE X.K X.mg S W (eFails S.own dflt wd mb)) := by
  obtain ⟨g, pg, bg, sg, dV, kV, doc, pm, cdv, ct, oc, an, od, osl, Ng, h1, h2, h3, h4, h5, h6, h7, h8, h9⟩ := D.ex
  exact (pe_lamN (t := fun E => tE X.K X.mg S0 (fun cls d _ H => E cls d H) mb) hg h1 h2 h3 h4 h5 h6 h7 h8 (h9 X _ rfl rfl rfl rfl rfl) TB hcode hmT hu hr L hdef hbind hbody hdb hd hcd).imp fun _ _ _ h => core_fails (fun z => (by rw [z] at hmT; cases hmT)) h
end
end TL

set_option Elab.async false
set_option linter.all false
set_option maxRecDepth 100000
set_option maxHeartbeats 2000000
/-! xs.pop(), xs.index(y), a list times a number, names = values over a tuple. -/
namespace TL
open PySem PySem.Spec PyProof.Rows L2 HotX L2H LamX
theorem room_hu {k : Nat} {A : Around} (h : Room k A) : A.units + 64 < cLine := by have := h.un; omega
theorem d_own {P : Program} {w : World} [WC] {K : PySem.W.Frag} {mg : Str → Option Value} {base : Heap} {N : List Str} {x : Str} {st : Stmt} {A : Around} {outer : List Env} {s : Shared} {H : Hp} {E : XK} :
    PassesOwn (model (dX P w K mg base N x st A outer s H E).prog (dX P w K mg base N x st A outer s H E).w) (dX P w K mg base N x st A outer s H E).A (dX P w K mg base N x st A outer s H E).env (dX P w K mg base N x st A outer s H E).xe := PassesOwn.leaving
theorem pt_bool {X : Cx} {e : Expr} {t : TT} (h : PW X e t) : PT X e t := h.pt
/-- the text that a suite gives -/
def wordOf : Res (Fl × Ev) → Option Str
  | .ok (.rt (.str s), _) => some s
  | _ => none
theorem wordOf_ok {r : Res (Fl × Ev)} {s : Str} (h : wordOf r = some s) : ∃ ev, r = .ok (.rt (.str s), ev) := by
  unfold wordOf at h
  split at h
  · cases h; exact ⟨_, rfl⟩
  · cases h
/-! ### xs.pop() -/
def sPop (i : Nat) : DS := fun ev => (lift ((ev[i]?).join.bind lstOf)).bind fun ds => if ds ≠ [] then .ok (.nx, ev.set i (some (.list ds.dropLast))) else .stuck
theorem Rps.dropLast [WC] {K : PySem.W.Frag} {mg : Str → Option Value} {F : Hp} {ds : List D} {vs : List V} (h : Rps K mg F ds vs) : Rps K mg F ds.dropLast vs.dropLast := by
  rw [List.dropLast_eq_take, List.dropLast_eq_take, h.len]
  exact h.take _
section
variable [WC] {X : Cx} {S : Sx} {W : WX} {a b e : Expr} {es tgs : List Expr} {ma mb : DE} {pos : Pos} {its : List Itm}
theorem sx_pop (i : Nat) {x : Str} {p1 p2 p3 : Pos} (ho : S.own i = true := by rfl) (hN : X.N[i]? = some x := by rfl) (hv : Vis X.env.scope x := by first | exact Or.inl rfl | exact Or.inr (Or.inl rfl) | exact Or.inr (Or.inr rfl))
    (hd : (x == ("__debug__" : Str)) = false := by decide) (hcd : (x == ("__classdict__" : Str)) = false := by decide) (hb : attributeBase (.Name x p1) "pop" X.env (eval (.Name x p1) X.env) = eval (.Name x p1) X.env := by rfl) (hline : (p2.endLine == p3.line) = true := by rfl)
    (hs : swapsWith (.Call (.Attribute (.Name x p1) "pop" p2) [] [] p3) none pos.line X.env = pure false := by rfl) :
    PS X (.Expr (.Call (.Attribute (.Name x p1) "pop" p2) [] [] p3) pos) (tS X.K X.mg S W (sPop i)) := by
  refine (ps_expr (pe_bm0 PySem.F.plainAttrs_list PySem.F.slot_list_pop PySem.F.type_list_pop (fun pins s σ H x xs v us Q I rx rxs h => mt_pop pins s σ H x xs v us Q I rx rxs h) (pe_var hN hv hd hcd) hb hline) hs).imp fun Dn σ H ⟨F, G, P, ev, M, h⟩ => ?_
  obtain ⟨ds, e1, h⟩ := h.lift
  have e1 := lstOf_some e1
  obtain ⟨hne, h⟩ := h.cond
  obtain ⟨a, x1, ⟨vs, x2, x3⟩, f0, g0⟩ := M.so i _ ho e1
  have hl := x3.len
  obtain ⟨y, hy⟩ : ∃ y, vs[vs.length - 1]? = some y := by
    have : 0 < vs.length := by rw [← hl]; exact List.length_pos_iff.mpr hne
    exact ⟨_, List.getElem?_eq_getElem (by omega)⟩
  exact ⟨_, x1, .inl ⟨rfl, vs, .inl (.inl x2)⟩, a, vs, y, rfl, rfl, x2, hy, h F _ σ (Same.refl _) (M.write ho e1 x1 x3.dropLast)⟩
/-! ### xs.index(y) -/
def gIdx : D → D → Option D
  | .list ds, d => if okD (.list ds) && okD d && decide (ds.length ≤ sizeLine) && (ds.map fun z => PyData.eqv z d).contains true then some (.int ((ds.map fun z => PyData.eqv z d).idxOf true : Nat)) else none
  | _, _ => none
theorem reads_get {h : Heap} : ∀ {ds : List PyData} {vs : List Value} {as : List Addr} {j : Nat} {v : Value} {d : PyData}, ReadsAll h vs ds as → vs[j]? = some v → ds[j]? = some d → ∃ bs, Reads h v d bs
  | [], _, _, _, _, _, r, e1, e2 => by simp at e2
  | d0 :: ds, _, _, 0, _, _, r, e1, e2 => by
    cases r with
    | cons r1 r2 => simp at e1 e2; subst e1; subst e2; exact ⟨_, r1⟩
  | d0 :: ds, _, _, j + 1, _, _, r, e1, e2 => by
    cases r with
    | cons r1 r2 => exact reads_get r2 (by simpa using e1) (by simpa using e2)
theorem plainAll_get : ∀ {ds : List PyData} {j : Nat} {d : PyData}, PyData.plainAll ds = true → ds[j]? = some d → d.plain = true
  | [], _, _, _, e => by simp at e
  | d0 :: ds, 0, d, h, e => by simp only [PyData.plainAll, Bool.and_eq_true] at h; simp at e; subst e; exact h.1
  | d0 :: ds, j + 1, d, h, e => by simp only [PyData.plainAll, Bool.and_eq_true] at h; exact plainAll_get h.2 (by simpa using e)
theorem mt_gIdx (hu : X.A.units + 64 < cLine) : MtR X "list.index" (fun x xs H Q => ∃ F a b d y, xs = [y] ∧ Same F H ∧ Rq X.K X.mg F H a x ∧ Rq X.K X.mg F H b y ∧ gIdx a b = some d ∧ ∀ F' H' v, Grow F H F' H' → Rp X.K X.mg F' d v → Q v H') := by
  intro pins s σ H x xs v us Q I rx rxs h
  obtain ⟨F, a, b, d, y, rfl, sm, ra, rb, e, k⟩ := h
  unfold gIdx at e
  split at e
  · rename_i ds
    split at e
    · rename_i hm
      simp only [Bool.and_eq_true, decide_eq_true_eq] at hm
      obtain ⟨⟨⟨m1, m2⟩, m3⟩, m4⟩ := hm
      cases e
      obtain ⟨p1, d1⟩ := okD_p m1
      obtain ⟨p2, d2⟩ := okD_p m2
      simp only [PyData.plain] at p1
      obtain ⟨p, vs, rfl, hl, rl⟩ := ra.list
      cases rx
      cases rxs with
      | cons ry rt =>
        rename_i uy ut
        cases rt
        obtain ⟨z, its, n, rv, _, ho⟩ := Inv.lstR I hl
        obtain ⟨as, r1⟩ := Rps.reads I ds vs its p1 (Rps.mono sm _ _ rl) rv
        obtain ⟨bs, r2⟩ := rq_reads I sm rb ry p2
        have hlen : its.length = ds.length := by rw [← rv.length, rl.len]
        refine PySem.SeqAt.call_list_index (α := Bool) (k := true) (ks := ds.map fun z => PyData.eqv z b) ⟨_, ho, rfl, n, rfl⟩ ⟨by rw [List.length_map]; exact hlen, fun j h1 h2 => ?_⟩ (by rw [List.length_map]; exact m3) (by simpa using m4) ⟨.int _, H, I.tok _, ⟨_, rfl⟩, k F H _ (Grow.refl _ _) (rp_int _)⟩
        have hj : j < ds.length := by rw [← hlen]; exact h1
        have e1 : its[j]? = some its[j] := List.getElem?_eq_getElem h1
        have e2 : ds[j]? = some ds[j] := List.getElem?_eq_getElem hj
        obtain ⟨cs, r3⟩ := reads_get r1 e1 e2
        have := PySem.SeqAt.eqAt_plain ds[j] b X.A.in1 s its[j] uy cs bs r3 r2 (plainAll_get p1 e2) p2 (by show X.A.units + 1 + _ < _; omega)
        rw [List.getElem_map]
        simpa using this
    · cases e
  · cases e
def eIdx (ma mb : DE) : DE := fun ev => (ma ev).bind fun p => (lift ((p.1.get p.2).bind lstOf)).bind fun _ => (mb p.2).bind fun q => (lift (p.1.get q.2)).bind fun a => (lift (q.1.get q.2)).bind fun b => (lift (gIdx a b)).bind fun d => .ok (.val d, q.2)
theorem sd_idx (hu : X.A.units + 64 < cLine) {apos cpos : Pos} (ha : PE X a (tE X.K X.mg S W ma)) (hb : PE X b (tE X.K X.mg S W mb)) (hbase : attributeBase a "index" X.env (eval a X.env) = eval a X.env := by rfl)
    (hfew : ((backTo cpos (starEach [b] X.env)).all (fun x => !x.1) && (backToKw cpos (keywordEach [] X.env)).all (fun x => x.1.isSome) && decide ([b].length + ([] : List Keyword).length + (if ([] : List Keyword).isEmpty then 0 else 1) < 30)) = true := by rfl)
    (hline : (apos.endLine == cpos.line) = true := by rfl) (hs : starEach [b] X.env = (false, eval b X.env) :: starEach [] X.env := by rfl) :
    PE X (.Call (.Attribute a "index" apos) [b] [] cpos) (tE X.K X.mg S W (eIdx ma mb)) := by
  refine (pe_bm PySem.F.plainAttrs_list PySem.F.slot_list_index PySem.F.type_list_index (mt_gIdx hu) ha (pa_cons hb pa_nil hs) hbase hfew hline hs rfl).imp fun σ H Q ⟨F, G, P, ev, M, h⟩ => ?_
  refine ⟨F, G, P, ev, M, h.bind.imp fun r1 ev1 F1 H1 _ s1 M1 h1 v rv => ?_⟩
  obtain ⟨ds, e0, h2⟩ := h1.lift
  obtain ⟨d0, e1, e2⟩ := Option.bind_eq_some_iff.mp e0
  cases d0 with
  | list xs =>
    obtain ⟨p, vs, rfl, hl, rl⟩ := (M1.acc rv e1).list
    refine ⟨.inl ⟨rfl, vs, .inl hl⟩, F1, G, P, ev1, M1, h2.bind.imp fun r2 ev2 F2 H2 _ s2 M2 h3 u ru => ?_⟩
    obtain ⟨x, e4, h4⟩ := h3.lift
    obtain ⟨y, e5, h5⟩ := h4.lift
    obtain ⟨d, e6, h6⟩ := h5.lift
    exact ⟨F2, x, y, d, u, rfl, M2.fr.fh, M2.acc (rv.mono s2) e4, M2.acc ru e5, e6, fun F' H' v' g r => h6 F' H' g.f (M2.grow g) v' r⟩
  | _ => cases e2
/-! ### a list display times a number -/
def oRep (k : Int) (m : DO) : DO := fun ev => (m ev).bind fun p => (lift (lstOf p.1)).bind fun ds => if 0 ≤ k ∧ k < 2 ^ 63 ∧ ds.length * k.toNat ≤ sizeLine then .ok (.list (List.replicate k.toNat ds).flatten, p.2) else .stuck
theorem so_rep {k : Int} {j : Nat} {p2 : Pos} {mo : DO} (ha : PE X a (tO X.K X.mg S W mo)) : PE X (.BinOp a .Mult (.Constant (.int k) j p2) pos) (tO X.K X.mg S W (oRep k mo)) := (pe_op op_rep ha pe_int).imp fun σ H Q ⟨F, G, P, ev, M, h⟩ => by
  refine ⟨F, G, P, ev, M, h.bind.imp fun d ev1 F1 H1 _ s1 M1 h1 a ow f => ?_⟩
  obtain ⟨ds, e1, h2⟩ := h1.lift
  obtain ⟨hk, h3⟩ := h2.cond
  cases d with
  | list xs =>
    cases e1
    obtain ⟨vs, q1, q2⟩ := ow
    have l1 := q2.len
    refine ⟨a, k, vs, rfl, rfl, q1, by omega, hk.2.1, by rw [← l1]; exact hk.2.2, ?_⟩
    exact fin_own M1.fr.fh (q2.flat _) fun F' H' p g hp hF o => h3 F' H' g.f (M1.grow g) p o ⟨hF, (FreshAt.of M1 hp).2⟩
  | _ => cases e1
/-! ### names = values, over a tuple -/
def tNm (is : List Nat) : TGs := fun vs σ H Q => vs.length = is.length ∧ Q (setV is vs σ) H
theorem sn_nil : PGs X [] (tNm []) := PGs_imp pgs_nil fun vs σ H Q ⟨h1, h2⟩ => by
  cases vs with
  | nil => exact ⟨rfl, h2⟩
  | cons v vs => cases h1
theorem sn_cons (i : Nat) {x : Str} {is : List Nat} (hN : X.N.Nodup) (h2 : PGs X es (tNm is)) (hi : X.N[i]? = some x := by rfl) (hx : Loc X.env.scope x := by first | exact Or.inl rfl | exact Or.inr rfl)
    (hf : X.fn x = true ∨ X.env.scope.names.lookup x = some .local := by first | exact .inl rfl | exact .inr rfl) (hs : (assignEach (.Name x pos :: es) X.env).map (·.2) = assign (.Name x pos) X.env :: (assignEach es X.env).map (·.2) := by rfl) :
    PGs X (.Name x pos :: es) (tNm (i :: is)) := PGs_imp (pgs_cons (pg_name (i := i) hN hi hx hf) h2 hs) fun vs σ H Q ⟨h1, h3⟩ => by
  cases vs with
  | nil => cases h1
  | cons v vs => exact ⟨v, vs, rfl, by simpa using h1, h3⟩
theorem AVR.grow {K : PySem.W.Frag} {mg : Str → Option Value} {F H H' : Hp} {ev : Ev} {σ : L2.St} (g : Grow F H F H') : ∀ {G : Hp} {as : List AV} {vs : List V}, AVR K mg S F H ev σ G as vs → AVR K mg S F H' ev σ G as vs
  | _, [], _, h => h
  | _, .v d :: as, _, ⟨v, w, e, r, q⟩ => ⟨v, w, e, r, AVR.grow g q⟩
  | _, .o d :: as, _, ⟨a, w, o, e, r, f, ha, q⟩ => ⟨a, w, o, e, r.grow g, f, g.h _ _ ha, AVR.grow g q⟩
theorem sx_upar (is : List Nat) {kt : Nat} {k2 pt2 pt} (hc : X.calm = true) (ha : PA X es (tI X.K X.mg S W its)) (hg : PGs X tgs (tNm is)) (hk : kinds S is its = true := by rfl)
    (hn : (assignEach tgs X.env).length = is.length := by rfl) (hst : (assignEach tgs X.env).findIdx? (·.1) = none := by rfl) (hw : swappedStores [.Tuple tgs kt pt] (.Tuple es k2 pt2) X.env = pure none := by rfl)
    (hs : swapsWithSole [.Tuple tgs kt pt] (.Tuple es k2 pt2) pos.line X.env = pure false := by rfl) (hz : is.length ≤ sizeLine := by decide) (h1 : (assignEach [.Tuple tgs kt pt] X.env).map (·.2) = [assign (.Tuple tgs kt pt) X.env] := by rfl) :
    PS X (.Assign [.Tuple tgs kt pt] (.Tuple es k2 pt2) pos) (tS X.K X.mg S W (sPar is its)) := (ps_asg (pe_tup ha) (pg_tup hc hg hn hst) hs hw h1).imp fun Dn σ H ⟨F, G, P, ev, M, h⟩ => by
  refine ⟨F, G, P, ev, M, h.bind.imp fun as ev1 F1 H1 e1 s1 M1 h1 vs av => ?_⟩
  obtain ⟨ev2, e2, h3⟩ := h1.lift
  have kA := kinds_ev hk e1
  have l1 := av.two
  have l2 := evIt_len (its := its) kA
  refine ⟨by rw [l1, l2]; exact hz, fun p hp => ?_⟩
  have gr : Grow F1 H1 F1 (upd H1 p (.tup vs)) := Grow.keep (same_upd hp)
  exact ⟨p, vs, rfl, .inl (.inl upd_same), by rw [l1, l2], by rw [l1, l2], h3 F1 _ _ (Same.refl _) (setAll_ok kA (M1.grow gr) (av.grow gr) e2)⟩
end
end TL

set_option Elab.async false
set_option linter.all false
set_option maxRecDepth 100000
set_option maxHeartbeats 2000000
/-! the law's own call; facts of exception classes. -/
namespace TL
open PySem PySem.Spec PyProof.Rows L2 HotX L2H LamX
theorem sp_law [WC] {K : PySem.W.Frag} {mg : Str → Option Value} {T : List (Addr × Str)} {f : FnS} {ns : List Int} {o : D} {a : Addr} {H : Hp} (hm : f.m [scD ns] = .ok (.bool true, o)) (hT : ∀ p ∈ T, H p.1 = some (.tbl #[])) (hS : SqL K H a (ns.map V.int)) (hnp : f.np = 1 := by rfl) (hio : f.io = none := by rfl) (hro : f.ro = false := by rfl) :
    spF K mg T f [.ref a] H (fun v _ => v = .bl true) (fun _ _ _ => False) := by
  obtain ⟨F, hF⟩ : ∃ F : Hp, ∀ b, (∀ o, H b = some o → (∀ ps, o ≠ .tbl ps) → F b = some o) ∧ (∀ o, F b = some o → H b = some o ∧ ∀ ps, o ≠ .tbl ps) := by
    refine ⟨fun b => match H b with | some (.tbl _) => none | o => o, fun b => ⟨fun o e n => ?_, fun o e => ?_⟩⟩
    · simp only [e]
      split
      · rename_i z; cases z; exact absurd rfl (n _)
      · rfl
    · cases q : H b with
      | none => simp only [q] at e; cases e
      | some u =>
        simp only [q] at e
        split at e
        · cases e
        · rename_i z
          cases e
          exact ⟨rfl, fun ps y => z ps (by rw [y])⟩
  refine ⟨F, fun _ => none, [scD ns], ⟨fun b o e => ((hF b).2 o e).1, fun b o e => (nomatch e), fun _ _ _ => rfl, fun b ps e => ((hF b).2 _ e).2 ps rfl, fun _ b ps e => (nomatch e), fun p hp => TabS.nil (hT p hp)⟩, by rw [hnp]; rfl, ⟨rfl, fun i d v e1 e2 => ⟨fun z => (by rw [hio] at z; cases z), fun _ => ?_⟩⟩, ?_⟩
  · cases i with
    | zero =>
      simp at e1 e2
      subst e1 e2
      simp only [scD, Rp]
      refine .inl (.inr (.inr ⟨ns, a, rfl, rfl, ?_⟩))
      rcases hS with hS | hS
      · refine .inl ?_
        rcases hS with hS | ⟨ob, hS⟩
        · exact .inl ((hF a).1 _ hS fun ps z => nomatch z)
        · exact .inr ⟨ob, (hF a).1 _ hS fun ps z => nomatch z⟩
      · exact .inr hS
    | succ i => simp at e1
  · rw [hm]
    intro F' H' v s fr io res
    unfold ResR at res
    rw [hro] at res
    simpa [Rp] using res
/-! ### facts of an exception class -/
def excCB (K : PySem.W.Frag) (D : Addr) : Bool := He.eqO (PySem.W.findIn K (.ref D) "__getattribute__") (some (some (.builtin "BaseException.__getattribute__"))) && (He.eqO (PySem.W.findIn K (.ref D) "__getattr__") (some none) && (decide (PySem.W.subIn K (.ref D) (.type "BaseException") = some true) &&
  (PySem.W.hasDictIn K D && (He.eqO (PySem.W.findIn K (.ref D) "__class__") (some (some (.builtin "object.__class__"))) && (He.eqO (PySem.W.specialIn K (.builtin "object.__class__") "__get__") (some (some (.builtin "getset_descriptor.__get__"))) && (decide (PySem.W.takesIn K (.builtin "object.__class__") = some true) && decide (PySem.W.mroIn K D (.type "object") = some true)))))))
theorem excCB_ok {K : PySem.W.Frag} {D : Addr} (h : excCB K D = true) : ExcC K D := by
  obtain ⟨h1, h⟩ := He.ba h
  obtain ⟨h2, h⟩ := He.ba h
  obtain ⟨h3, h⟩ := He.ba h
  obtain ⟨h4, h⟩ := He.ba h
  obtain ⟨h5, h⟩ := He.ba h
  obtain ⟨h6, h⟩ := He.ba h
  obtain ⟨h7, h8⟩ := He.ba h
  exact ⟨He.eqO_ok h1, He.eqO_ok h2, of_decide_eq_true h3, h4, He.eqO_ok h5, He.eqO_ok h6, of_decide_eq_true h7, of_decide_eq_true h8⟩
end TL

set_option Elab.async false
set_option linter.all false
set_option maxRecDepth 100000
/-! displays of dicts. -/
namespace TL
open PySem PySem.Spec PyProof.Rows L2
def oNewD : DO := fun ev => .ok (.dict [], ev)
abbrev DPs := Ev → Res (List (D × D) × Ev)
def dpNil : DPs := fun ev => .ok ([], ev)
/-- one pair: the key, the value; both become values at once -/
def dpCons (mk mv : DE) (r : DPs) : DPs := fun ev => (mk ev).bind fun p => (toVal p.1 p.2).bind fun k => (mv k.2).bind fun q => (toVal q.1 q.2).bind fun v => (r v.2).bind fun t => .ok ((k.1, v.1) :: t.1, t.2)
/-- the pairs stored, from the left -/
def dStore : List (D × D) → List (D × D) → Option (List (D × D))
  | acc, [] => some acc
  | acc, (k, v) :: r => (keyOk acc k).bind fun nk => dStore (dPut acc nk k v) r
def oDisp (ps : DPs) : DO := fun ev => (ps ev).bind fun p => if p.1.length ≤ 15 ∧ p.1.length ≠ 0 ∧ dicS p.1 = true then (lift (dStore [] p.1)).bind fun kvs => .ok (.dict kvs, p.2) else .stuck
section
variable [WC] {X : Cx} {S : Sx} {W : WX} {pos : Pos}
theorem dic_none {P : Program} {w : World} {H' : Hp} (h : Heap) : ObjOk P w H' (h.push { cls := .type "dict", data := .dict #[] }) h.objs.size (dicO h.objs.size []) :=
  dic_ok (es := #[]) (ep := 0) (Heap.get?_push_size _ rfl) ⟨rfl, rfl, rfl⟩ rfl .nil
theorem fresh_sys {pins : List (Addr × Obj)} {σ : L2.St} {H : Hp} {s : Shared} (I : Inv X pins σ H s) : (s.heap.objs.size == sysModules) = false := by
  exact beq_eq_false_iff_ne.mpr (Ne.symm (Nat.ne_of_lt I.big))
theorem so_dnew : PE X (.Dict [] [] pos) (tO X.K X.mg S W oNewD) := ⟨fun pins s σ H Q I ⟨F, G, P, ev, M, h⟩ => by
  have hp := I.hok.fresh (Nat.le_refl s.heap.objs.size)
  refine wpAny_Dict_empty ⟨.ref s.heap.objs.size, _, I.laid (a := s.heap.objs.size) (o := dicO s.heap.objs.size []) (t' := s.toks) (fun _ _ q => Heap.get?_push_of_some _ q) (Nat.le_refl _) (dic_none s.heap), rfl, ?_⟩
  have g : Grow F H F (upd H s.heap.objs.size (dicO s.heap.objs.size [])) := Grow.keep (same_upd hp)
  exact h F _ (Same.refl _) (M.grow g) _ ⟨[], upd_same, fresh_sys I, by simp only [Rkv], List.nodup_nil, Nat.zero_le _⟩ ⟨same_none M.fr.fh hp, (FreshAt.of M hp).2⟩⟩
/-- the pairs of a display -/
structure PDs (X : Cx) (pos : Pos) (keys : List (Option Expr)) (values : List Expr) (t : L2.St → Hp → (List (V × V) → Hp → Prop) → Prop) : Prop where
  run : ∀ (pins : List (Addr × Obj)) (s : Shared) (σ : L2.St) (H : Hp) (Q : List (V × V) → Hp → Prop), Inv X pins σ H s → t σ H Q →
    wpAny (model X.prog X.w) X.A (evalPairs (pairTrees keys values X.env pos)) (fun vs s' => ∃ ps H', Inv X pins σ H' s' ∧ VV ps vs ∧ Q ps H') X.xe s
def RPs (K : PySem.W.Frag) (mg : Str → Option Value) (F : Hp) (ds : List (D × D)) (vs : List (V × V)) : Prop := Paired (fun d v => Rp K mg F d.1 v.1 ∧ Rp K mg F d.2 v.2) ds vs
def tPD (K : PySem.W.Frag) (mg : Str → Option Value) (S : Sx) (W : WX) (m : DPs) : L2.St → Hp → (List (V × V) → Hp → Prop) → Prop := fun σ H Q => ∃ F G P ev, Sim K mg S F G P H ev σ ∧ tM K mg S W G P σ F (m ev) fun ds _ F' H' => ∀ vs, RPs K mg F' ds vs → Q vs H'
theorem RPs.mono {K : PySem.W.Frag} {mg : Str → Option Value} {F F' : Hp} (s : Same F F') {ds : List (D × D)} {vs : List (V × V)} (h : RPs K mg F ds vs) : RPs K mg F' ds vs := by
  unfold RPs at *
  exact Paired.mapP h fun a b q => ⟨Rp.mono s _ _ q.1, Rp.mono s _ _ q.2⟩
theorem sdp_nil : PDs X pos [] [] (tPD X.K X.mg S W dpNil) := ⟨fun pins s σ H Q I ⟨F, G, P, ev, M, h⟩ => pairTrees_nil_walk ⟨[], H, I, .nil, h F H (Same.refl _) M [] .nil⟩⟩
theorem sdp_cons {k v : Expr} {ks : List (Option Expr)} {vs : List Expr} {mk mv : DE} {r : DPs} (hk : PE X k (tE X.K X.mg S W mk)) (hv : PE X v (tE X.K X.mg S W mv)) (hr : PDs X pos ks vs (tPD X.K X.mg S W r)) : PDs X pos (some k :: ks) (v :: vs) (tPD X.K X.mg S W (dpCons mk mv r)) := ⟨fun pins s σ H Q I h => by
  obtain ⟨F, G, P, ev, M, h⟩ := h
  refine pairTrees_cons_walk (thn (hk.run pins s σ H (fun x H1 => ∃ F1 G P ev1 kd, Sim X.K X.mg S F1 G P H1 ev1 σ ∧ Rp X.K X.mg F1 kd x ∧ tM X.K X.mg S W G P σ F1 ((mv ev1).bind fun q => (toVal q.1 q.2).bind fun v => (r v.2).bind fun t => Res.ok ((kd, v.1) :: t.1, t.2)) fun ds _ F' H' => ∀ vs, RPs X.K X.mg F' ds vs → Q vs H') I ⟨F, G, P, ev, M, h.bind.imp fun rv ev1 F1 H1 _ s1 M1 h1 v r => ?_⟩) fun u s1 ⟨x, H1, I1, rx, q1⟩ => ?_)
  · obtain ⟨d, ev2, F2, _, s2, M2, r2, h2⟩ := tM.val M1 r h1
    exact ⟨F2, G, P, ev2, d, M2, r2, h2⟩
  · obtain ⟨F1, G1, P1, ev1, kd, M1, rk, h1⟩ := q1
    refine thn (hv.run pins s1 σ H1 (fun y H2 => ∃ F2 G P ev2 vd, Sim X.K X.mg S F2 G P H2 ev2 σ ∧ Rp X.K X.mg F2 kd x ∧ Rp X.K X.mg F2 vd y ∧ tM X.K X.mg S W G P σ F2 ((r ev2).bind fun t => Res.ok ((kd, vd) :: t.1, t.2)) fun ds _ F' H' => ∀ vs, RPs X.K X.mg F' ds vs → Q vs H') I1 ⟨F1, G1, P1, ev1, M1, h1.bind.imp fun rv ev2 F2 H2 _ s2 M2 h2 v r => ?_⟩) fun w s2 ⟨y, H2, I2, ry, q2⟩ => ?_
    · obtain ⟨d, ev3, F3, _, s3, M3, r3, h3⟩ := tM.val M2 r h2
      exact ⟨F3, G1, P1, ev3, d, M3, Rp.mono (s2.trans s3) _ _ rk, r3, h3⟩
    · obtain ⟨F2, G2, P2, ev2, vd, M2, rk2, rv2, h2⟩ := q2
      exact thn (hr.run pins s2 σ H2 (fun ps H3 => Q ((x, y) :: ps) H3) I2 ⟨F2, G2, P2, ev2, M2, h2.bind.imp fun ds ev3 F3 H3 _ s3 M3 h3 vs rs => h3 F3 H3 (Same.refl _) M3 _ (.cons ⟨Rp.mono s3 _ _ rk2, Rp.mono s3 _ _ rv2⟩ rs)⟩) fun ws s3 ⟨ps, H3, I3, rel, q3⟩ => ⟨(x, y) :: ps, H3, I3, .cons ⟨rx, ry⟩ rel, q3⟩⟩
theorem store_tup {pins : List (Addr × Obj)} {σ : L2.St} {H F : Hp} {s : Shared} (I : Inv X pins σ H s) (sm : Same F H) : ∀ {ds acc kvs : List (D × D)} {xs : List (NestedKey × Addr × Value)} {vs : List (V × V)} {ws : List (Value × Value)}, dStore acc ds = some kvs → (∀ p ∈ ds, isTup p.1 = true) → Paired (KA X.K X.mg F) acc xs → RPs X.K X.mg F ds vs → VV vs ws →
    ∃ ps, CarriesH (nestedKind X.prog X.w) s.heap ws ps ∧ Paired (KA X.K X.mg F) kvs (storedAllH xs ps)
  | [], acc, kvs, xs, vs, ws, e, _, h, r, rv => by
    cases r; cases rv; cases e
    exact ⟨[], True.intro, h⟩
  | (k, d) :: ds, acc, kvs, xs, vs, ws, e, ht, h, r, rv => by
    have e : ((keyOk acc k).bind fun nk => dStore (dPut acc nk k d) ds) = some kvs := e
    obtain ⟨nk, e1, e2⟩ := Option.bind_eq_some_iff.mp e
    obtain ⟨k1, k2, _⟩ := keyOk_p e1
    cases r with
    | cons r1 r2 =>
      cases rv with
      | @cons a b as bs v1 v2 =>
        have t := ht _ List.mem_cons_self
        have rk := Rp.mono sm _ _ r1.1
        obtain ⟨ad, q1, q2⟩ := tup_ref t rk v1.1
        have rF := r1.1
        rw [q1] at rF
        obtain ⟨ps, c1, c2⟩ := store_tup I sm e2 (fun p hp => ht p (List.mem_cons_of_mem _ hp)) (ka_put h k1 k2 rF r1.2 v1.2) r2 v2
        refine ⟨(nk, ad, b.2) :: ps, ⟨q2, rfl, ?_, c1⟩, c2⟩
        exact tup_is I k1 k2 rk (by have := v1.1; rw [q2] at this; exact this)
theorem store_mix {F : Hp} : ∀ {ds acc kvs : List (D × D)} {xs : List (Key × Value)} {vs : List (V × V)} {ws : List (Value × Value)}, dStore acc ds = some kvs → (∀ p ∈ ds, isSc p.1 = true) → Paired (KR X.K X.mg F emK) acc xs → RPs X.K X.mg F ds vs → VV vs ws →
    ∃ ps, Carries (mixKind X.prog X.w) ws ps ∧ Paired (KR X.K X.mg F emK) kvs (merged xs ps)
  | [], acc, kvs, xs, vs, ws, e, _, h, r, rv => by
    cases r; cases rv; cases e
    exact ⟨[], True.intro, h⟩
  | (k, d) :: ds, acc, kvs, xs, vs, ws, e, ht, h, r, rv => by
    have e : ((keyOk acc k).bind fun nk => dStore (dPut acc nk k d) ds) = some kvs := e
    obtain ⟨nk, e1, e2⟩ := Option.bind_eq_some_iff.mp e
    obtain ⟨k1, k2, _⟩ := keyOk_p e1
    cases r with
    | cons r1 r2 =>
      cases rv with
      | @cons a b as bs v1 v2 =>
        obtain ⟨kk, q1, q2⟩ := sc_is (X := X) (ht _ List.mem_cons_self) r1.1 v1.1
        have e3 : nk = emK kk := by rw [k1] at q1; exact Option.some.inj q1
        subst e3
        obtain ⟨ps, c1, c2⟩ := store_mix e2 (fun p hp => ht p (List.mem_cons_of_mem _ hp)) (kr_put emK_inj h q1 r1.2 v1.2) r2 v2
        exact ⟨(kk, b.2) :: ps, ⟨q2, rfl, c1⟩, c2⟩
theorem store_keys : ∀ {ds acc kvs : List (D × D)}, dStore acc ds = some kvs → kvs.length ≤ acc.length + ds.length ∧ ∀ p ∈ kvs, (∃ q ∈ acc, q.1 = p.1) ∨ ∃ q ∈ ds, q.1 = p.1
  | [], acc, kvs, e => by cases e; exact ⟨by simp, fun p hp => .inl ⟨p, hp, rfl⟩⟩
  | (k, d) :: ds, acc, kvs, e => by
    have e : ((keyOk acc k).bind fun nk => dStore (dPut acc nk k d) ds) = some kvs := e
    obtain ⟨nk, e1, e2⟩ := Option.bind_eq_some_iff.mp e
    obtain ⟨h1, h2⟩ := store_keys e2
    have := put_len acc nk k d
    refine ⟨by simp only [List.length_cons]; omega, fun p hp => ?_⟩
    rcases h2 p hp with ⟨q, hq, e⟩ | ⟨q, hq, e⟩
    · unfold dPut at hq
      split at hq
      · obtain ⟨r, hr, rfl⟩ := List.mem_map.mp hq
        refine .inl ⟨r, hr, ?_⟩
        rw [← e]
        split <;> rfl
      · rcases List.mem_append.mp hq with hq | hq
        · exact .inl ⟨q, hq, e⟩
        · rw [List.mem_singleton] at hq
          exact .inr ⟨(k, d), List.mem_cons_self, by rw [← e, hq]⟩
    · exact .inr ⟨q, List.mem_cons_of_mem _ hq, e⟩
theorem Sim.rewriteD {K : PySem.W.Frag} {mg : Str → Option Value} {S : Sx} {F G H : Hp} {P : Nat → Option Addr} {ev : Ev} {σ : L2.St} {a : Addr} {o o' : HO} (h1 : OwnO a o) (h2 : OwnO a o') (M : Sim K mg S F (upd G a o) P H ev σ) : Sim K mg S F (upd G a o') P (upd H a o') ev σ := by
  have hH : H a = some o := M.fr.gh _ _ upd_same
  have hF : F a = none := by
    cases q : F a with
    | none => rfl
    | some u => have := M.fr.gf a u q; rw [upd_same] at this; cases this
  refine ⟨⟨fun b u e => ?_, fun b u e => ?_, fun b u e => ?_, M.fr.nt, fun hT b ps e => ?_, Tabs_write M.fr.tb hH h1⟩, M.len, M.sl, fun i d h e => ?_, M.sp, M.pn⟩
  · rw [upd_ne (fun z => by rw [z, hF] at e; cases e)]; exact M.fr.fh _ _ e
  · by_cases hb : b = a
    · subst hb; rw [upd_same] at e ⊢; exact e
    · rw [upd_ne hb] at e ⊢; exact M.fr.gh b u (by rw [upd_ne hb]; exact e)
  · have hb : b ≠ a := fun z => by rw [z, hF] at e; cases e
    have := M.fr.gf b u e
    rw [upd_ne hb] at this ⊢
    exact this
  · by_cases hb : b = a
    · subst hb; rw [upd_same] at e; cases e; rcases h2 with ⟨_, z⟩ | ⟨_, z⟩ <;> cases z
    · rw [upd_ne hb] at e; exact M.fr.gt hT b ps (by rw [upd_ne hb]; exact e)
  · obtain ⟨b, e1, o, f0, g0⟩ := M.so i d h e
    have hb : b ≠ a := fun z => by rw [z, upd_same] at g0; cases g0
    refine ⟨b, e1, ?_, f0, by rw [upd_ne hb] at g0 ⊢; exact g0⟩
    exact o.at (Same.refl _) fun u y1 => by rw [upd_ne hb]; exact y1
theorem so_disp {keys : List (Option Expr)} {values : List Expr} {ps : DPs} (hp : PDs X pos keys values (tPD X.K X.mg S W ps)) (hu : X.A.units + 64 < cLine) (hw : X.w = WC.w := by rfl) (hall : keys.all (·.isSome) = true := by rfl) (hl : keys.length = values.length := by rfl) (h0 : keys ≠ [] := by exact List.cons_ne_nil _ _) (h15 : keys.length ≤ 15 := by decide) : PE X (.Dict keys values pos) (tO X.K X.mg S W (oDisp ps)) := ⟨fun pins s σ H Q I ⟨F, G, P, ev, M, h⟩ => by
  have hpn := I.hok.fresh (Nat.le_refl s.heap.objs.size)
  have hsys := fresh_sys I
  have hold : ∀ b o, s.heap.get? b = some o → (s.heap.push { cls := .type "dict", data := .dict #[] }).get? b = some o := fun b o q => Heap.get?_push_of_some _ q
  generalize ha : s.heap.objs.size = a at *
  have I1 : Inv X pins σ (upd H a (dicO a [])) { s with heap := s.heap.push { cls := .type "dict", data := .dict #[] } } := I.laid (a := a) (t' := s.toks) hold (by rw [ha]; exact Nat.le_refl _) (by rw [← ha]; exact dic_none s.heap)
  have g : Grow F H F (upd H a (dicO a [])) := Grow.keep (same_upd hpn)
  have M1 := M.grow g
  have ow : OwnD X.K X.mg F (upd H a (dicO a [])) (.dict []) a := ⟨[], upd_same, hsys, by simp only [Rkv], List.nodup_nil, Nat.zero_le _⟩
  have fr : FreshAt S ev σ F G a := FreshAt.of M hpn
  have MG := M1.keepG ow fr upd_same
  have hs2 : Same G (upd G a (dicO a [])) := same_upd fr.2.1
  have hF : F a = none := fr.1
  -- the pairs are evaluated
  have key := hp.run pins _ σ _ (fun vs H2 => ∃ F2 ev2 ds kvs, ps ev = .ok (ds, ev2) ∧ Sim X.K X.mg S F2 (upd G a (dicO a [])) P H2 ev2 σ ∧ RPs X.K X.mg F2 ds vs ∧ ds.length ≤ 15 ∧ dicS ds = true ∧ dStore [] ds = some kvs ∧ ∀ F' H', Same F2 F' → Sim X.K X.mg S F' G P H' ev2 σ → ∀ p, OwnD X.K X.mg F' H' (.dict kvs) p → FreshAt S ev2 σ F' G p → Q (.ref p) H') I1 ⟨F, upd G a (dicO a []), P, ev, MG, (tM.chG hs2 MG.fr.gt h.bind).imp fun ds ev2 F2 H2 e0 s2 M2 hh vs rs => by
    obtain ⟨M2', hh⟩ := hh
    obtain ⟨hc, hh⟩ := hh.cond
    obtain ⟨kvs, e1, hh⟩ := hh.lift
    exact ⟨F2, ev2, ds, kvs, e0, M2', rs, hc.1, hc.2.2, e1, fun F' H' s' M' p o f => hh F' H' s' M' p o f⟩⟩
  rw [arm_eval_Dict, zip_pairTrees keys values X.env pos hall hl]
  have hlen := pairTrees_length keys values X.env pos hall hl
  rw [dictDisplay_pairs (pairTrees keys values X.env pos) (fun he => h0 (List.length_eq_zero_iff.mp (by rw [← hlen, he]; rfl))) (by omega)]
  have fin : ∀ {ws : List (Value × Value)} {s1 : Shared} {H2 : Hp} {F2 : Hp} {ev2 : Ev} {ds kvs : List (D × D)} {h' : Heap} {tk : Nat} {ps' : List E3} {o : Obj} {es : Array DictEntry} {ep : Nat}, Inv X pins σ H2 s1 → Sim X.K X.mg S F2 (upd G a (dicO a [])) P H2 ev2 σ → dStore [] ds = some kvs → ds.length ≤ 15 → Heap.SameBut a s1.heap h' → h'.get? a = some o → o.ExactDict → o.data = .dict es ep → Paired EntR ps' es.toList → Rkv X.K X.mg F2 kvs ps' → (kvs.map fun p => keyD p.1).Nodup →
      (∀ F' H', Same F2 F' → Sim X.K X.mg S F' G P H' ev2 σ → ∀ p, OwnD X.K X.mg F' H' (.dict kvs) p → FreshAt S ev2 σ F' G p → Q (.ref p) H') → EP X pins σ Q (.ref a) { s1 with heap := h', toks := tk } := by
    intro ws s1 H2 F2 ev2 ds kvs h' tk ps' o es ep I2 M2 e1 hd hsb q1 q2 q3 q4 rk nd k
    have hH2 : H2 a = some (dicO a []) := M2.fr.gh _ _ upd_same
    have M3 := M2.rewriteD (.inr ⟨_, rfl⟩) (.inr ⟨ps', rfl⟩)
    have hF2 : F2 a = none := by
      cases q : F2 a with
      | none => rfl
      | some u => have := M2.fr.gf a u q; rw [upd_same] at this; cases this
    have hlk := (store_keys e1).1
    rw [List.length_nil] at hlk
    have hG : Same G (upd G a (dicO a ps')) := same_upd fr.2.1
    refine ⟨.ref a, upd H2 a (dicO a ps'), L2.d_write I2 (by rw [hH2]; exact True.intro) hsb ⟨o, q1⟩ (dic_ok q1 q2 q3 q4), rfl, k F2 _ (Same.refl _) (M3.lessG hG) a ⟨ps', upd_same, hsys, rk, nd, by rw [sizeLine_eq]; omega⟩ ⟨hF2, fr.2.1, fun i d ho e z => ?_⟩⟩
    obtain ⟨b, y1, y2, y3, y4⟩ := M2.so i d ho e
    rw [z] at y1
    cases y1
    rw [upd_same] at y4
    cases y4
  refine wpAny_bind (wpAny_standAt (wpAny_bind ?_))
  have hlp : (pairTrees keys values X.env pos).length ≤ 15 := by omega
  by_cases htu : ∃ ds ev2, ps ev = .ok (ds, ev2) ∧ ∀ p ∈ ds, isTup p.1 = true
  · refine wpAny_subDictH (knd := nestedKind X.prog X.w) (Q := fun d s' => wpAny (model X.prog X.w) X.A (pure (Value.ref d)) (EP X pins σ Q) X.xe s') (by show X.A.units + 8 < cLine; omega) hlp (wpAny_mono key (fun vs s1 h1 => ?_) fun _ _ e => e)
    obtain ⟨qs, H2, I2, rv, F2, ev2, ds, kvs, e0, M2, rs, hd, hS, e1, k⟩ := h1
    obtain ⟨ds', ev2', e0', ht⟩ := htu
    rw [e0] at e0'
    cases e0'
    obtain ⟨xs, c1, c2⟩ := store_tup I2 M2.fr.fh e1 ht .nil rs rv
    have hH2 : H2 a = some (dicO a []) := M2.fr.gh _ _ upd_same
    obtain ⟨⟨o, es, ep, q1, q2, q3, q4⟩, _⟩ := I2.hok a _ hH2
    have hes : es.toList = [] := by cases hq : es.toList with | nil => rfl | cons _ _ => rw [hq] at q4; cases q4
    rw [ha]
    refine ⟨xs, c1, ⟨o, es, ep, q1, q2, q3, by rw [hes]; rfl, fun x hx => by simp at hx, List.nodup_nil⟩, fun h' tk dd hsb => ?_⟩
    obtain ⟨o, es, ep, q1, q2, q3, q4, q5, q6⟩ := dd
    obtain ⟨ps', y1, y2⟩ := ka_back (P := X.prog) hw c2
    refine wpAny_pure (fin (ws := vs) I2 M2 e1 hd hsb q1 q2 q3 (by rw [q4]; exact y2) y1 ?_ k)
    refine keys_nodup (em := id) (fun _ _ e => e) (ka_kr c2) ?_
    unfold pairsH
    rw [List.map_map]
    exact q6
  · refine wpAny_subDict (knd := mixKind X.prog X.w) (Q := fun d s' => wpAny (model X.prog X.w) X.A (pure (Value.ref d)) (EP X pins σ Q) X.xe s') hlp (wpAny_mono key (fun vs s1 h1 => ?_) fun _ _ e => e)
    obtain ⟨qs, H2, I2, rv, F2, ev2, ds, kvs, e0, M2, rs, hd, hS, e1, k⟩ := h1
    have ht : ∀ p ∈ ds, isSc p.1 = true := by
      rcases dicS_p hS with t | t
      · exact absurd ⟨ds, ev2, e0, t⟩ htu
      · exact t
    obtain ⟨xs, c1, c2⟩ := store_mix (X := X) e1 ht .nil rs rv
    have hH2 : H2 a = some (dicO a []) := M2.fr.gh _ _ upd_same
    obtain ⟨⟨o, es, ep, q1, q2, q3, q4⟩, _⟩ := I2.hok a _ hH2
    have hes : es.toList = [] := by cases hq : es.toList with | nil => rfl | cons _ _ => rw [hq] at q4; cases q4
    rw [ha]
    refine ⟨xs, c1, ⟨o, es, ep, q1, q2, q3, fun e he => by rw [← Array.mem_toList_iff, hes] at he; simp at he, by rw [hes]; exact .nil, List.nodup_nil⟩, fun h' dd hsb => ?_⟩
    obtain ⟨o, es, ep, q1, q2, q3, q4, q5, q6⟩ := dd
    obtain ⟨ps', y1, y2⟩ := mix_back hw c2 q5 (fun e he => q4 e (by simpa using he)) (fun p hp => by
      rcases (store_keys e1).2 p hp with ⟨q, hq, _⟩ | ⟨q, hq, e⟩
      · simp at hq
      · rw [← e]; exact ht q hq)
    exact wpAny_pure (fin (ws := vs) I2 M2 e1 hd hsb q1 q2 q3 y2 y1 (keys_nodup emK_inj c2 q6) k)⟩
end
end TL

set_option Elab.async false
set_option linter.all false
set_option maxRecDepth 100000
/-! dict(pairs), d.pop(k), d == {}, min and max of two data. -/
namespace TL
open PySem PySem.Spec PyProof.Rows L2

/-! ### dict(pairs) -/
def pairsOf : List D → Option (List (D × D))
  | [] => some []
  | .tuple [a, b] :: r => (pairsOf r).map ((a, b) :: ·)
  | _ :: _ => none
def gDict : List D → Option D
  | [.list ds] => (pairsOf ds).bind fun ps => if dicS ps && decide (ps.length ≤ sizeLine) then (dStore [] ps).map .dict else none
  | _ => none
section
variable [WC] {X : Cx}
theorem rpt_of {K : PySem.W.Frag} {mg : Str → Option Value} {F : Hp} {a b : D} {x : V} (h : Rp K mg F (.tuple [a, b]) x) : ∃ c u v, x = .ref c ∧ SqT K F c [u, v] ∧ Rp K mg F a u ∧ Rp K mg F b v := by
  simp only [Rp] at h
  obtain ⟨c, vs, rfl, q, r⟩ := h
  simp only [Rps] at r
  obtain ⟨u, vr, rfl, r1, v, vr2, rfl, r2, rfl⟩ := r
  exact ⟨c, u, v, rfl, q, r1, r2⟩
theorem pairs_at {pins : List (Addr × Obj)} {σ : L2.St} {H F : Hp} {s : Shared} (I : Inv X pins σ H s) (sm : Same F H) : ∀ {ds : List D} {ps : List (D × D)} {vs : List V} {its : List Value}, pairsOf ds = some ps → Rps X.K X.mg F ds vs → Vals vs its →
    ∃ (bs : List Addr) (us : List (V × V)) (ws : List (Value × Value)), its = bs.map .ref ∧ RPs X.K X.mg F ps us ∧ VV us ws ∧ Paired (fun b w => PairAt s.heap b w.1 w.2) bs ws
  | [], ps, vs, its, e, r, rv => by
    cases e
    simp only [Rps] at r
    subst r
    cases rv
    exact ⟨[], [], [], rfl, .nil, .nil, .nil⟩
  | d :: ds, ps, vs, its, e, r, rv => by
    unfold pairsOf at e
    split at e
    · rename_i h; cases h
    · rename_i a b r' h
      cases h
      obtain ⟨ps', e1, rfl⟩ := Option.map_eq_some_iff.mp e
      simp only [Rps] at r
      obtain ⟨x, vr, rfl, q1, q2⟩ := r
      obtain ⟨c, u, v, rfl, hq, ra, rb⟩ := rpt_of q1
      cases rv with
      | @cons _ w _ wr rx rr =>
        cases rx
        obtain ⟨bs, us, ws, rfl, z1, z2, z3⟩ := pairs_at I sm e1 q2 rr
        obtain ⟨its, ri, ⟨o, ho, hc, n, hd⟩, _⟩ := I.tuple (SqT_mono sm hq)
        cases ri with
        | @cons _ ku _ t1 rk t2 =>
          cases t2 with
          | @cons _ vu _ t3 rv2 t4 =>
            cases t4
            exact ⟨c :: bs, (u, v) :: us, (ku, vu) :: ws, rfl, .cons ⟨ra, rb⟩ z1, .cons ⟨rk, rv2⟩ z2, .cons (.inl ⟨o, ho, hc, n, hd⟩) z3⟩
    · cases e
theorem Paired.getD {α β : Type} {R : α → β → Prop} {as : List α} {bs : List β} (h : Paired R as bs) : ∀ {j : Nat} {b : β}, bs[j]? = some b → ∃ a, as[j]? = some a ∧ R a b := by
  induction h with
  | nil => intro j b e; simp at e
  | @cons a b as bs h t ih =>
    intro j x e
    cases j with
    | zero => simp at e; subst e; exact ⟨a, by simp, h⟩
    | succ j => simp at e; obtain ⟨y, e1, e2⟩ := ih e; exact ⟨y, by simpa using e1, e2⟩
theorem carriesH_get {prog : Program} {w : World} {K : Type} [DecidableEq K] {knd : HeapKind prog w K} {h : Heap} : ∀ {vs : List (Value × Value)} {ps : List (K × Addr × Value)}, CarriesH knd h vs ps → ∀ (i : Nat) (key v : Value), vs[i]? = some (key, v) → ∃ (k : K) (b : Addr), ps[i]? = some (k, b, v) ∧ key = Value.ref b
  | [], [], _, i, key, v, e => by simp at e
  | (a, b) :: vs, (k, c, v') :: ps, h, 0, key, v, e => by
    simp at e; obtain ⟨rfl, rfl⟩ := e; obtain ⟨h1, h2, _⟩ := h; subst h2; exact ⟨k, c, by simp, h1⟩
  | (a, b) :: vs, (k, c, v') :: ps, h, i + 1, key, v, e => by
    simp at e; obtain ⟨k, b, e1, e2⟩ := carriesH_get h.2.2.2 i key v e; exact ⟨k, b, by simpa using e1, e2⟩
  | [], _ :: _, c, _, _, _, _ => c.elim
  | _ :: _, [], c, _, _, _, _ => c.elim
theorem carriesH_is {prog : Program} {w : World} {K : Type} [DecidableEq K] {knd : HeapKind prog w K} {h : Heap} : ∀ {vs : List (Value × Value)} {ps : List (K × Addr × Value)}, CarriesH knd h vs ps → ∀ x ∈ ps, knd.is h x.1 x.2.1
  | [], [], _, x, hx => by simp at hx
  | (a, b) :: vs, (k, c, v') :: ps, h, x, hx => by
    rcases List.mem_cons.mp hx with rfl | hx
    · exact h.2.2.1
    · exact carriesH_is h.2.2.2 x hx
  | [], _ :: _, c, _, _ => c.elim
  | _ :: _, [], c, _, _ => c.elim
theorem carries_get {prog : Program} {w : World} {K : Type} [DecidableEq K] {knd : KeyKind prog w K} : ∀ {vs : List (Value × Value)} {ps : List (K × Value)}, Carries knd vs ps → ∀ (i : Nat) (key v : Value), vs[i]? = some (key, v) → ∃ k : K, ps[i]? = some (k, v) ∧ knd.is k key = true
  | [], [], _, i, key, v, e => by simp at e
  | (a, b) :: vs, (k, v') :: ps, h, 0, key, v, e => by
    simp at e; obtain ⟨rfl, rfl⟩ := e; obtain ⟨h1, h2, _⟩ := h; subst h2; exact ⟨k, by simp, h1⟩
  | (a, b) :: vs, (k, v') :: ps, h, i + 1, key, v, e => by
    simp at e; obtain ⟨k, e1, e2⟩ := carries_get h.2.2 i key v e; exact ⟨k, by simpa using e1, e2⟩
  | [], _ :: _, c, _, _, _, _ => c.elim
  | _ :: _, [], c, _, _, _, _ => c.elim
theorem call_gDict (hc : X.calm = true) (hu : X.A.units + 64 < cLine) (hw : X.w = WC.w := by rfl) : CallR X (.type "dict") (rOs X.K X.mg gDict) := by
  intro pins s σ H xs us Q I r h
  obtain ⟨F, as, d, sm, l, q, e, k⟩ := h
  unfold gDict at e
  split at e
  · rename_i ds
    obtain ⟨ps, e1, e⟩ := Option.bind_eq_some_iff.mp e
    split at e
    · rename_i hm
      simp only [Bool.and_eq_true, decide_eq_true_eq] at hm
      obtain ⟨kvs, e2, rfl⟩ := Option.map_eq_some_iff.mp e
      obtain ⟨x, rfl, qx⟩ := rq1 l q
      obtain ⟨a, vs, rfl, h1, r1⟩ := qx.list
      obtain ⟨z, its, n, rv, _, ho⟩ := Inv.lstR I h1
      rw [Vals.ref1 r]
      obtain ⟨bs, us2, ws, rfl, p1, p2, p3⟩ := pairs_at I sm e1 r1 rv
      have L1 := Paired.length p1
      have L2' := Paired.length p2
      have L3 := Paired.length p3
      have hPI : PlainSeq "list" s.heap a (bs.map Value.ref).toArray ∧ PairItems s.heap (bs.map Value.ref).toArray (fun j => bs.getD j 0) ws := by
        refine ⟨⟨_, _, ho, rfl, rfl, rfl⟩, by simp [L3], fun j kk vv hj => ?_⟩
        obtain ⟨b, hb, hp⟩ := Paired.getD p3 hj
        exact ⟨by simp [hb], by simpa [List.getD_eq_getElem?_getD, hb] using hp⟩
      have hk := store_keys e2
      have hkl : kvs.length ≤ ps.length := by have := hk.1; simpa using this
      have hsys := fresh_sys I
      have hfr := I.hok.fresh (Nat.le_refl s.heap.objs.size)
      have hlp : kvs.length ≤ sizeLine := by omega
      rcases dicS_p hm.1 with t | t
      · obtain ⟨qs, c1, c2⟩ := store_tup I sm e2 t .nil p1 p2
        refine PySem.call_dict_pairsH (knd := nestedKind X.prog X.w) (PairArg.list a _ (fun j => bs.getD j 0) ws) (I.ok.hd hc) (by show X.A.in1.in1.units + 8 < cLine; show X.A.units + 1 + 1 + 8 < cLine; omega) hPI ⟨c1.length, fun i key v e => carriesH_get c1 i key v e⟩
          (fun h' hk x hx => (nestedKind_stays.stays (fun b o _ _ e _ => hk b o (Nat.ne_of_lt (Heap.lt_size e)) (by simp) e) (carriesH_is c1 x hx))) (by omega) fun h' tk dd hk2 => ?_
        obtain ⟨ps', y1, y2⟩ := ka_back (P := X.prog) hw c2
        obtain ⟨o, es, ep, q1, q2, q3, q4, q5, q6⟩ := dd
        have nd : (kvs.map fun p => keyD p.1).Nodup := by
          refine keys_nodup (em := id) (fun _ _ e => e) (ka_kr c2) ?_
          unfold pairsH
          rw [List.map_map]
          exact q6
        exact ⟨.ref s.heap.objs.size, _, I.laid (a := s.heap.objs.size) (o := dicO s.heap.objs.size ps') (t' := tk) (fun b o e => hk2 b o (by simp) e) (Nat.le_refl _) (dic_ok q1 q2 q3 (by rw [q4]; exact y2)), rfl, k F _ _ (Grow.keep (same_upd hfr)) hfr (same_none sm hfr) ⟨ps', upd_same, hsys, y1, nd, hlp⟩⟩
      · obtain ⟨qs, c1, c2⟩ := store_mix (X := X) e2 t .nil p1 p2
        refine PySem.call_dict_pairs (knd := mixKind X.prog X.w) (PairArg.list a _ (fun j => bs.getD j 0) ws) (I.ok.hd hc) hPI ⟨c1.length, fun i key v e => carries_get c1 i key v e⟩ (by omega) fun h' tk dd hk2 => ?_
        obtain ⟨o, es, ep, q1, q2, q3, q4, q5, q6⟩ := dd
        obtain ⟨ps', y1, y2⟩ := mix_back hw c2 q5 (fun e he => q4 e (by simpa using he)) (fun p hp => by
          rcases hk.2 p hp with ⟨q, hq, _⟩ | ⟨q, hq, e⟩
          · simp at hq
          · rw [← e]; exact t q hq)
        exact ⟨.ref s.heap.objs.size, _, I.laid (a := s.heap.objs.size) (o := dicO s.heap.objs.size ps') (t' := tk) (fun b o e => hk2 b o (by simp) e) (Nat.le_refl _) (dic_ok q1 q2 q3 y2), rfl, k F _ _ (Grow.keep (same_upd hfr)) hfr (same_none sm hfr) ⟨ps', upd_same, hsys, y1, keys_nodup emK_inj c2 q6, hlp⟩⟩
    · cases e
  · cases e
/-! ### d.pop(k), a statement -/
theorem drop_len (kvs : List (D × D)) (nk : NestedKey) : (dDrop kvs nk).length ≤ kvs.length := List.length_filter_le _ _
theorem dVal_any {kvs : List (D × D)} {nk : NestedKey} (h : (dVal kvs nk).isSome = true) : (kvs.any fun p => decide (keyD p.1 = some nk)) = true := by
  unfold dVal at h
  rw [Option.isSome_map] at h
  rw [List.any_eq_true]
  obtain ⟨x, hx, hp⟩ := List.find?_isSome.mp h
  exact ⟨x, hx, hp⟩
theorem dic_pop {pins : List (Addr × Obj)} {σ : L2.St} {H F : Hp} {s : Shared} {a : Addr} {kvs : List (D × D)} {nk : NestedKey} {kd : D} {x : V} {xu : Value} {E : Value → Shared → Prop} {Q : Value → Shared → Prop} (I : Inv X pins σ H s) (hw : X.w = WC.w) (hu : X.A.units + 64 < cLine) (sm : Same F H)
    (od : OwnD X.K X.mg F H (.dict kvs) a) (hk : keyOk kvs kd = some nk) (hv : (dVal kvs nk).isSome = true) (rk : Rp X.K X.mg F kd x) (rx : RelV x xu)
    (hQ : ∀ s' o' w v, Inv X pins σ (upd H a o') s' → OwnD X.K X.mg F (upd H a o') (.dict (dDrop kvs nk)) a → RelV v w → Q w s') : wpAny (model X.prog X.w) X.A (call (.builtin "dict.pop") [.ref a, xu]) Q E s := by
  obtain ⟨ps, ha, hs, hr, hn, hl⟩ := od
  obtain ⟨k1, k2, k3⟩ := keyOk_p hk
  have hc : DcL X.K H a ps := .inl (.inl ha)
  have hmu : Mut (H a) := by rw [ha]; exact True.intro
  have hlen := drop_len kvs nk
  rcases k3 with ⟨t1, t2⟩ | ⟨t1, t2⟩
  · obtain ⟨xs, x1, x2⟩ := keyed_of I hw sm hc hr hn t2
    have rkH := Rp.mono sm _ _ rk
    obtain ⟨b, rfl, rfl⟩ := tup_ref t1 rkH rx
    have hxl := Paired.length x2
    have hat := ka_any nk x2
    rw [dVal_any hv] at hat
    obtain ⟨p, hp⟩ := Option.isSome_iff_exists.mp hat.symm
    have hpv : ∃ v, RelV v p.2 := by
      unfold atKey at hp
      obtain ⟨y, hy, rfl⟩ := Option.map_eq_some_iff.mp hp
      have hm := List.mem_of_find?_eq_some hy
      obtain ⟨i, hi, e⟩ := List.getElem_of_mem hm
      obtain ⟨q, _, hq⟩ := Paired.getD x2 (List.getElem?_eq_some_iff.mpr ⟨hi, e⟩)
      obtain ⟨_, _, _, v, _, rv⟩ := hq
      exact ⟨v, rv⟩
    obtain ⟨v, rv⟩ := hpv
    refine PySem.call_pop_heap (knd := nestedKind X.prog X.w) (k := nk) (hsz := by omega) (.inl rfl) (PySem.F.args_dict_pop_2 _ _) (a_in1 hu) (tup_is I k1 k2 rkH rx) hs x1 hp fun h' dd' hsb => ?_
    have x3 := ka_drop (nk := nk) x2
    obtain ⟨ps', y1, y2⟩ := ka_back (P := X.prog) hw x3
    obtain ⟨o, es, ep, e1, e2, e3, e4, e5, e6⟩ := dd'
    refine hQ _ (dicO a ps') p.2 v (L2.d_write I hmu hsb ⟨o, e1⟩ (dic_ok e1 e2 e3 (by rw [e4]; exact y2))) ⟨ps', upd_same, hs, y1, ?_, by omega⟩ rv
    refine keys_nodup (em := id) (fun _ _ e => e) (ka_kr x3) ?_
    unfold pairsH
    rw [List.map_map]
    exact e6
  · obtain ⟨vs, x1, x2⟩ := mix_of I hw hc hr hn t2
    obtain ⟨k, e1, e2⟩ := sc_is t1 rk rx
    have e3 : nk = emK k := by rw [k1] at e1; exact Option.some.inj e1
    subst e3
    have hxl := Paired.length x2
    have rd := kr_val emK_inj k x2
    obtain ⟨dv, hdv⟩ := Option.isSome_iff_exists.mp hv
    rw [hdv] at rd
    obtain ⟨w, y, q1, q2, q3⟩ := rel_some rd
    have hp : (keyPart xu).isSome = true := by
      rcases keyIs_shape e2 with ⟨i, t, hx, he⟩ | ⟨y, t, hx, he⟩
      · rw [he]; rfl
      · rw [he]; rfl
    refine call_meetsIn PySem.F.slot_dict_pop x1.typeIs PySem.F.entry_dict_pop (PySem.F.args_dict_pop_2 _ _) (meets_dict_pop_there (mixKind X.prog X.w) a e2 [] (.inl rfl) hp)
      ⟨vs, w, x1, by rw [← hxl]; exact hl, q1, fun h' dd' hsb => ?_⟩
    have x3 := kr_drop emK_inj (k := k) x2
    obtain ⟨o, es, ep, z1, z2, z3, z4, z5, z6⟩ := dd'
    obtain ⟨ps', y1, y2⟩ := mix_back hw x3 z5 (fun e he => z4 e (by simpa using he)) (fun p hp => t2 p ((List.mem_filter.mp hp).1))
    exact hQ _ (dicO a ps') w y (L2.d_write I hmu hsb ⟨o, z1⟩ (dic_ok z1 z2 z3 y2)) ⟨ps', upd_same, hs, y1, keys_nodup emK_inj x3 z6, by omega⟩ q3
def dicOf : D → Option (List (D × D))
  | .dict kvs => some kvs
  | _ => none
theorem dicOf_some {o : Option (Option D)} {kvs : List (D × D)} (h : o.join.bind dicOf = some kvs) : o = some (some (.dict kvs)) := by
  obtain ⟨d, e1, e2⟩ := Option.bind_eq_some_iff.mp h
  cases d with
  | dict xs => cases e2; exact join_some e1
  | _ => cases e2
/-- d.pop(e), d an own slot, the key there; what it gives is let go -/
def sPopK (i : Nat) (m : DE) : DS := fun ev => (lift ((ev[i]?).join.bind dicOf)).bind fun _ => (m ev).bind fun p => (toVal p.1 p.2).bind fun q => (lift ((q.2[i]?).join.bind dicOf)).bind fun kvs => (lift (keyOk kvs q.1)).bind fun nk =>
  if (dVal kvs nk).isSome = true then .ok (.nx, q.2.set i (some (.dict (dDrop kvs nk)))) else .stuck
def rPopK (K : PySem.W.Frag) (mg : Str → Option Value) : V → List V → Hp → VK → Prop := fun x vs H Q => ∃ F kvs a kd y nk, x = .ref a ∧ vs = [y] ∧ Same F H ∧ OwnD K mg F H (.dict kvs) a ∧ Rp K mg F kd y ∧ keyOk kvs kd = some nk ∧ (dVal kvs nk).isSome = true ∧ ∀ o' v, OwnD K mg F (upd H a o') (.dict (dDrop kvs nk)) a → Q v (upd H a o')
theorem mt_popk (hu : X.A.units + 64 < cLine) (hw : X.w = WC.w) : MtM X "dict.pop" (rPopK X.K X.mg) := by
  intro pins s σ H x xs v us Q I rx rv h
  obtain ⟨F, kvs, a, kd, y, nk, rfl, rfl, sm, od, rk, hk, hv, q⟩ := h
  cases rx
  obtain ⟨u, rfl, ru⟩ := rv.one
  exact dic_pop I hw hu sm od hk hv rk ru fun s' o' w v I' ow rw' => ⟨v, _, I', rw', q o' v ow⟩
def tBMd (r : V → List V → Hp → VK → Prop) (to : TE) (t : TA) : TE := fun σ H Q => to σ H fun x H1 => (∃ a ps, x = .ref a ∧ H1 a = some (dicO a ps)) ∧ t σ H1 fun xs H2 => r x xs H2 Q
theorem pe_bmd {o e : Expr} {es : List Expr} {to : TE} {t : TA} {name : Str} {apos cpos : Pos} {id : String} {r : V → List V → Hp → VK → Prop} (pa : PlainAttrs "dict") (slot : Slot "dict" name id) (hty : typeOf (.builtin id) = pure (.type "method_descriptor")) (hm : MtM X id r) (ho : PE X o to) (ha : PA X (e :: es) t)
    (hbase : attributeBase o name X.env (eval o X.env) = eval o X.env := by rfl)
    (hfew : ((backTo cpos (starEach (e :: es) X.env)).all (fun x => !x.1) && (backToKw cpos (keywordEach [] X.env)).all (fun x => x.1.isSome)
      && decide ((e :: es).length + ([] : List Keyword).length + (if ([] : List Keyword).isEmpty then 0 else 1) < 30)) = true := by rfl)
    (hline : (apos.endLine == cpos.line) = true := by rfl) (hs : starEach (e :: es) X.env = (false, eval e X.env) :: starEach es X.env := by rfl) (hplain : (backTo cpos (starEach es X.env)).any (·.1) = false := by rfl) :
    PE X (.Call (.Attribute o name apos) (e :: es) [] cpos) (tBMd r to t) := by
  refine ⟨fun pins s σ H Q I h => ?_⟩
  refine wpAny_Call_method_late hbase hfew hline rfl (thn (ho.run pins s σ H _ I h) fun v s1 ⟨x, H1, I1, r1, ⟨a, ps, hx, ha1⟩, q1⟩ => ?_)
  have hh := (I1.hok a _ ha1).1
  obtain ⟨ob, es', ep, z1, z2, z3, z4⟩ := hh
  rw [hx] at r1
  obtain rfl : v = Value.ref a := r1
  refine ⟨"dict", id, pa, slot, hty, ⟨ob, z1, z2.1⟩, fun b eb => by cases eb; exact ⟨ob, z1, z2.2.1⟩, ?_⟩
  have hA := ha.run cpos pins s1 σ H1 _ I1 q1
  rw [hs] at hA ⊢
  refine Calls.callWith_builtin (by show (false || (backTo cpos (starEach es X.env)).any (·.1)) = false; rw [hplain] <;> rfl) (Calls.evalArgs_plain ?_)
  exact thn hA fun us s2 ⟨vs, H2, I2, r2, q2⟩ => hm pins s2 σ H2 x vs _ us Q I2 (by rw [hx]; rfl) r2 q2
section
variable {S : Sx} {W : WX} {e : Expr} {m : DE} {pos : Pos}
theorem sx_popk (hu : X.A.units + 64 < cLine) (i : Nat) {x : Str} {p1 p2 p3 : Pos} (he : PE X e (tE X.K X.mg S W m)) (ho : S.own i = true := by rfl) (hN : X.N[i]? = some x := by rfl) (hv : Vis X.env.scope x := by first | exact Or.inl rfl | exact Or.inr (Or.inl rfl) | exact Or.inr (Or.inr rfl))
    (hd : (x == ("__debug__" : Str)) = false := by decide) (hcd : (x == ("__classdict__" : Str)) = false := by decide) (hb : attributeBase (.Name x p1) "pop" X.env (eval (.Name x p1) X.env) = eval (.Name x p1) X.env := by rfl) (hse : starEach [e] X.env = (false, eval e X.env) :: starEach [] X.env := by rfl) (hfew : ((backTo p3 (starEach [e] X.env)).all (fun x => !x.1) && (backToKw p3 (keywordEach [] X.env)).all (fun x => x.1.isSome) && decide ([e].length + ([] : List Keyword).length + (if ([] : List Keyword).isEmpty then 0 else 1) < 30)) = true := by rfl) (hline : (p2.endLine == p3.line) = true := by rfl)
    (hs : swapsWith (.Call (.Attribute (.Name x p1) "pop" p2) [e] [] p3) none pos.line X.env = pure false := by rfl) (hw : X.w = WC.w := by rfl) :
    PS X (.Expr (.Call (.Attribute (.Name x p1) "pop" p2) [e] [] p3) pos) (tS X.K X.mg S W (sPopK i m)) := by
  refine (ps_expr (pe_bmd PySem.F.plainAttrs_dict PySem.F.slot_dict_pop PySem.F.type_dict_pop (mt_popk hu hw) (pe_var hN hv hd hcd) (pa_cons he pa_nil hse) hb hfew hline hse rfl) hs).imp fun Dn σ H ⟨F, G, P, ev, M, h⟩ => ?_
  obtain ⟨ds, e1, h⟩ := h.lift
  have e1 := dicOf_some e1
  obtain ⟨a, x1, ⟨ps, x2, x3⟩, f0, g0⟩ := M.so i _ ho e1
  refine ⟨_, x1, ⟨a, ps, rfl, x2⟩, F, G, P, ev, M, h.bind.imp fun rv ev1 F1 H1 _ q1 M1 h3 v r => ?_⟩
  obtain ⟨d, ev2, F2, _, s2, M2, r2, h3⟩ := tN.val M1 r h3
  obtain ⟨ds2, e2, h3⟩ := h3.lift
  have e2 := dicOf_some e2
  obtain ⟨nk, e3, h3⟩ := h3.lift
  obtain ⟨hl, h3⟩ := h3.cond
  obtain ⟨a', y1, y2, f1, g1⟩ := M2.so i _ ho e2
  rw [x1] at y1
  cases y1
  exact ⟨F2, ds2, a, d, v, nk, rfl, rfl, M2.fr.fh, y2, r2, e3, hl, fun o' w ow => h3 F2 _ σ (Same.refl _) (M2.writeO ho e2 x1 ow)⟩
end
/-! ### d == {} -/
def gEqE : D → D → Option D
  | .dict kvs, .dict [] => if dicS kvs then some (.bool kvs.isEmpty) else none
  | _, _ => none
theorem raw_eq {A : Around} {prog : Program} {w : World} {E Q : Value → Shared → Prop} {s : Shared} {a b : Addr} {oa ob : Obj} {es es' : Array DictEntry} {ep ep' : Nat} (ha : (a == sysModules) = false) (hb : (b == sysModules) = false) (hu : A.units < cLine)
    (a1 : s.heap.get? a = some oa) (a2 : oa.ExactDict) (a3 : oa.data = .dict es ep) (b1 : s.heap.get? b = some ob) (b2 : ob.ExactDict) (b3 : ob.data = .dict es' ep') (h0 : es'.size = 0) (hQ : Q (.bool (es.size == 0)) s) :
    wpAny (model prog w) A (compareOp .Eq (.ref a) (.ref b)) Q E s := by
  show wpAny _ _ (richCompare .Eq (.ref a) (.ref b)) _ _ _
  have ta : s.TypeIs (.ref a) "dict" := ⟨oa, a1, a2.1⟩
  have tb : s.TypeIs (.ref b) "dict" := ⟨ob, b1, b2.1⟩
  refine wpAny_richCompare_same_room (op := .Eq) ta tb PySem.F.slot_dict_eq (wpAny_call_entry PySem.F.slot_dict_eq ta PySem.F.entry_dict_eq ?_ (PySem.F.args_dict_eq_2 _ _)) hu
  show wpAny _ _ (Builtin.Dict.dictSlotArgs "__eq__" ⟨[.ref a, .ref b], []⟩ >>= _) _ _ s
  refine wpAny_bind ?_
  unfold Builtin.Dict.dictSlotArgs
  refine wpAny_bind (wpAny_notOrdered_dict ta ?_)
  show wpAny _ _ (pure (Value.ref a, Value.ref b)) _ _ s
  refine wpAny_pure ?_
  refine wpAny_bind (wpAny_isInstance (T := "dict") tb PySem.F.sub_dict_dict ?_)
  simp only [Bool.not_true, Bool.false_eq_true, if_false]
  refine wpAny_bind (wpAny_pure (wpAny_bind (wpAny_pure ?_)))
  have key : ∀ {nm : String} {Q' : Bool → Shared → Prop} {E' : Value → Shared → Prop} {A' : Around}, Q' (es.size == 0) s → wpAny (model prog w) A' (Builtin.Dict.samePairs nm a b) Q' E' s := by
    intro nm Q' E' A' hQ'
    unfold Builtin.Dict.samePairs Builtin.Dict.showsAll
    rw [if_neg (show ¬ (a == sysModules) = true by rw [ha]; exact Bool.false_ne_true), if_neg (show ¬ (b == sysModules) = true by rw [hb]; exact Bool.false_ne_true)]
    refine wpAny_bind (wpAny_pure (wpAny_bind (wpAny_pure ?_)))
    refine wpAny_bind (wpAny_dictEntries a1 a3 ?_)
    dsimp only
    refine wpAny_bind (wpAny_dictEntries b1 b3 ?_)
    by_cases hsz : es.size = 0
    · rw [if_neg (by rw [h0, hsz]; simp)]
      have : (es.size == 0) = true := by simpa using hsz
      rw [this] at hQ'
      refine wpAny_bind (wpAny_dictEpoch a1 a3 ?_)
      refine wpAny_bind ?_
      rw [Std.Legacy.Range.forIn_eq_forIn_range']
      simp only [Std.Legacy.Range.size, Nat.sub_zero, Nat.add_sub_cancel, Nat.div_one, hsz]
      exact wpAny_pure (wpAny_pure hQ')
    · rw [if_pos (by rw [h0]; simpa using hsz)]
      have : (es.size == 0) = false := by simpa using hsz
      rw [this] at hQ'
      exact wpAny_bind (wpAny_rule (wpAny_pure hQ'))
  refine wpAny_bind (key ?_)
  refine wpAny_pure ⟨_, rfl, ?_, ?_⟩
  · exact fun x => nomatch x
  · simpa using hQ
theorem op_gEqE (hu : X.A.units + 64 < cLine) : OpR X (compareOp .Eq) (rV X.K X.mg gEqE) := by
  intro pins s σ H x y v u Q I rx ry h
  obtain ⟨F, a, b, d, sm, ra, rb, e, k⟩ := h
  unfold gEqE at e
  split at e
  · rename_i kvs
    split at e
    · rename_i hk
      cases e
      obtain ⟨p, ps, rfl, hs, hc, hr, hn, hl⟩ := ra.dicS hk
      obtain ⟨p2, ps2, rfl, hs2, hc2, hr2, hn2, hl2⟩ := Rq.dic rb (by simp)
      cases rx
      cases ry
      obtain ⟨o, es, ep, e1, e2, e3, e4⟩ := dic_raw I hc
      obtain ⟨o', es', ep', f1, f2, f3, f4⟩ := dic_raw I hc2
      have z2 : ps2 = [] := by simpa only [Rkv] using hr2
      subst z2
      have h0 : es'.size = 0 := by have := Paired.length f4; simpa using this.symm
      have hp : (es.size == 0) = kvs.isEmpty := by
        have l1 := Paired.length e4
        cases kvs with
        | nil =>
          have z1 : ps = [] := by simpa only [Rkv] using hr
          subst z1
          have : es.size = 0 := by simpa using l1.symm
          simp [this]
        | cons q kvs =>
          simp only [Rkv] at hr
          obtain ⟨_, _, z1, _⟩ := hr
          subst z1
          simp at l1
          have : es.size ≠ 0 := by omega
          simp [this]
      refine raw_eq hs hs2 (by omega) e1 e2 e3 f1 f2 f3 h0 ⟨.bl _, H, I, rfl, ?_⟩
      rw [hp]
      exact k F H _ (Grow.refl _ _) (rp_bool _)
    · cases e
  · cases e
/-! ### min and max of two data -/
theorem min_two_data {prog : Program} {w : World} {A : Around} {E : Value → Shared → Prop} {s : Shared} {a b : Value} {x y : PyData} {as : List Addr} {Q : Value → Shared → Prop} (hh : A.handled = none) (hra : ReadsAll s.heap [a, b] [x, y] as) (ha : PySem.W.AlikeAll [x, y]) (hu : A.units + 1 + PyData.depthAll [x, y] < cLine)
    (h : ∀ (i : Nat) v h' tk bs, [a, b][i]? = some v → Reads h' v (PySem.W.minD x [y]) bs → (∀ c o, s.heap.get? c = some o → h'.get? c = some o) → Q v { s with heap := h', toks := tk }) :
    wpAny (model prog w) A (call (.builtin "min") [a, b]) Q E s := by
  have hname : (toString "min" ++ toString ".loop" : String) = "min.loop" := by decide
  refine call_function_tree F.kind_min F.plain_min F.entry_min (F.args_min2 _ _) ?_
  show wpAny _ A.in1 (Builtin.Builtins.bindParams "min" ["key", "default"] 0 ⟨[], []⟩ >>= _) _ _ s
  refine wpAny_bind (wpAny_of_eq (show Builtin.Builtins.bindParams "min" ["key", "default"] 0 ⟨[], []⟩ = pure [none, none] from rfl) ?_)
  show wpAny _ A.in1 (newTuple [a, b] >>= _) _ _ s
  refine wpAny_bind (wpAny_newObj_type ?_)
  have hk0 : ∀ c o, s.heap.get? c = some o → (s.heap.push { cls := .type "tuple", data := .seq #[a, b] }).get? c = some o := fun c o e => Heap.get?_push_of_some _ e
  have hr : ReadsAll (s.heap.push { cls := .type "tuple", data := .seq #[a, b] }) (#[a, b] : Array Value).toList [x, y] as := ReadsAll.keeps hk0 hra
  have hl : (s.heap.push { cls := .type "tuple", data := .seq #[a, b] }).IsTuple s.heap.objs.size #[a, b] := ⟨_, Heap.get?_push_size _ rfl, rfl, _, rfl⟩
  refine wpAny_bind (PySem.W.iter_tupleW (A := A.in1) hh hl fun s₂ e W st hfp hw hk => ?_)
  refine wpAny_bind (wpAny_newObj_type ?_)
  have hSf : s₂.heap.objs.size ∉ _ := fun hm => Nat.lt_irrefl _ (hfp _ hm)
  rw [hname]
  refine wpAny_pure ⟨plainId_quiet F.plain_min_loop _, codeAny_min_loop_firstH W _ hw _ (PySem.W.cmpIn_lt (A := A.in1) hr ha (by show A.units + 1 + _ < _; exact hu)) s₂.heap.objs.size hSf (fresh_in hk) _ (Nat.zero_lt_succ 1) (fun b o e => Heap.get?_push_of_some _ (hk b o e)) (W.frame 0 s₂ _ s₂.toks st (Nat.le_refl _) fun b _ o e => Heap.get?_push_of_some _ e) (Heap.get?_push_size _ rfl) fun v s' hP hm => ?_⟩
  have m := Moved.drop_new (tk := s₂.toks) hm (Nat.le_refl _)
  obtain ⟨h', tk, rfl, hk'⟩ := PySem.W.moved_old e rfl m
  obtain ⟨bs, r, _, _, _⟩ := PySem.W.readsAll_atA hr _ v hP
  have e2 := (PySem.W.argBest_fold PySem.W.dataLt PyData.none x [y] 1 (Nat.le_refl _)).2
  exact h _ v h' tk bs (by simpa using hP) (PySem.W.reads_keeps hk' (by unfold PySem.W.minD; rw [← show _ = List.foldl _ x [y] from e2]; exact r)) fun c o e => hk' c o (hk0 c o e)
theorem max_two_data {prog : Program} {w : World} {A : Around} {E : Value → Shared → Prop} {s : Shared} {a b : Value} {x y : PyData} {as : List Addr} {Q : Value → Shared → Prop} (hh : A.handled = none) (hra : ReadsAll s.heap [a, b] [x, y] as) (ha : PySem.W.AlikeAll [x, y]) (hu : A.units + 1 + PyData.depthAll [x, y] < cLine)
    (h : ∀ (i : Nat) v h' tk bs, [a, b][i]? = some v → Reads h' v (PySem.W.maxD x [y]) bs → (∀ c o, s.heap.get? c = some o → h'.get? c = some o) → Q v { s with heap := h', toks := tk }) :
    wpAny (model prog w) A (call (.builtin "max") [a, b]) Q E s := by
  have hname : (toString "max" ++ toString ".loop" : String) = "max.loop" := by decide
  refine call_function_tree F.kind_max F.plain_max F.entry_max (F.args_max2 _ _) ?_
  show wpAny _ A.in1 (Builtin.Builtins.bindParams "max" ["key", "default"] 0 ⟨[], []⟩ >>= _) _ _ s
  refine wpAny_bind (wpAny_of_eq (show Builtin.Builtins.bindParams "max" ["key", "default"] 0 ⟨[], []⟩ = pure [none, none] from rfl) ?_)
  show wpAny _ A.in1 (newTuple [a, b] >>= _) _ _ s
  refine wpAny_bind (wpAny_newObj_type ?_)
  have hk0 : ∀ c o, s.heap.get? c = some o → (s.heap.push { cls := .type "tuple", data := .seq #[a, b] }).get? c = some o := fun c o e => Heap.get?_push_of_some _ e
  have hr : ReadsAll (s.heap.push { cls := .type "tuple", data := .seq #[a, b] }) (#[a, b] : Array Value).toList [x, y] as := ReadsAll.keeps hk0 hra
  have hl : (s.heap.push { cls := .type "tuple", data := .seq #[a, b] }).IsTuple s.heap.objs.size #[a, b] := ⟨_, Heap.get?_push_size _ rfl, rfl, _, rfl⟩
  refine wpAny_bind (PySem.W.iter_tupleW (A := A.in1) hh hl fun s₂ e W st hfp hw hk => ?_)
  refine wpAny_bind (wpAny_newObj_type ?_)
  have hSf : s₂.heap.objs.size ∉ _ := fun hm => Nat.lt_irrefl _ (hfp _ hm)
  rw [hname]
  refine wpAny_pure ⟨plainId_quiet F.plain_max_loop _, codeAny_max_loop_firstH W _ hw _ (PySem.W.cmpIn_gt (A := A.in1) hr ha (by show A.units + 1 + _ < _; exact hu)) s₂.heap.objs.size hSf (fresh_in hk) _ (Nat.zero_lt_succ 1) (fun b o e => Heap.get?_push_of_some _ (hk b o e)) (W.frame 0 s₂ _ s₂.toks st (Nat.le_refl _) fun b _ o e => Heap.get?_push_of_some _ e) (Heap.get?_push_size _ rfl) fun v s' hP hm => ?_⟩
  have m := Moved.drop_new (tk := s₂.toks) hm (Nat.le_refl _)
  obtain ⟨h', tk, rfl, hk'⟩ := PySem.W.moved_old e rfl m
  obtain ⟨bs, r, _, _, _⟩ := PySem.W.readsAll_atA hr _ v hP
  have e2 := (PySem.W.argBest_fold (fun y a => PySem.W.dataLt a y) PyData.none x [y] 1 (Nat.le_refl _)).2
  exact h _ v h' tk bs (by simpa using hP) (PySem.W.reads_keeps hk' (by unfold PySem.W.maxD; rw [← show _ = List.foldl _ x [y] from e2]; exact r)) fun c o e => hk' c o (hk0 c o e)
def gMin2 : List D → Option D
  | [.tuple x, .tuple y] => if minOk (.tuple x) [.tuple y] then some (PySem.W.minD (.tuple x) [.tuple y]) else none
  | l => gMin l
def gMax2 : List D → Option D
  | [.tuple x, .tuple y] => if minOk (.tuple x) [.tuple y] then some (PySem.W.maxD (.tuple x) [.tuple y]) else none
  | l => gMax l
theorem call_gMin2 (hc : X.calm = true) (hu : X.A.units + 64 < cLine) : CallR X (.builtin "min") (rVs X.K X.mg gMin2) := by
  intro pins s σ H xs us Q I r h
  obtain ⟨F, as, d, sm, l, q, e, k⟩ := h
  unfold gMin2 at e
  split at e
  · rename_i dx dy
    split at e
    · rename_i hm
      cases e
      obtain ⟨p, dd, al⟩ := minOk_p hm
      obtain ⟨x, y, rfl, qx, qy⟩ := rq2 l q
      have r0 : Rps X.K X.mg F [.tuple dx, .tuple dy] [x, y] := by
        simp only [Rps]
        exact ⟨x, [y], rfl, qx, y, [], rfl, qy, rfl⟩
      have r1 := Rps.mono sm _ _ r0
      have rv := r
      obtain ⟨bs, hr⟩ := Rps.reads I _ _ _ p r1 rv
      cases r with
      | @cons _ u _ t1 ru t2 =>
        cases t2 with
        | @cons _ v _ t3 rv2 t4 =>
          cases t4
          refine min_two_data (I.ok.hd hc) hr al (by omega) fun i v' h' tk bs hv hm' hk => ?_
          obtain ⟨d, z, e1, e2, e3, e4⟩ := item_rp r0 rv hv
          have pd := plain_at p e1
          obtain ⟨cs, hd⟩ := Rp.reads I d z v' pd (Rp.mono sm _ _ e4) e3
          have := PySem.SeqAt.plain_unique d _ v' cs bs pd (PySem.W.reads_keeps hk hd) hm'
          rw [← this] at k
          exact ⟨z, H, I.kept hk, e3, k F H _ (Grow.refl _ _) e4⟩
    · cases e
  · exact call_gMin hc hu pins s σ H xs us Q I r ⟨F, _, d, sm, l, q, e, k⟩
theorem call_gMax2 (hc : X.calm = true) (hu : X.A.units + 64 < cLine) : CallR X (.builtin "max") (rVs X.K X.mg gMax2) := by
  intro pins s σ H xs us Q I r h
  obtain ⟨F, as, d, sm, l, q, e, k⟩ := h
  unfold gMax2 at e
  split at e
  · rename_i dx dy
    split at e
    · rename_i hm
      cases e
      obtain ⟨p, dd, al⟩ := minOk_p hm
      obtain ⟨x, y, rfl, qx, qy⟩ := rq2 l q
      have r0 : Rps X.K X.mg F [.tuple dx, .tuple dy] [x, y] := by
        simp only [Rps]
        exact ⟨x, [y], rfl, qx, y, [], rfl, qy, rfl⟩
      have r1 := Rps.mono sm _ _ r0
      have rv := r
      obtain ⟨bs, hr⟩ := Rps.reads I _ _ _ p r1 rv
      cases r with
      | @cons _ u _ t1 ru t2 =>
        cases t2 with
        | @cons _ v _ t3 rv2 t4 =>
          cases t4
          refine max_two_data (I.ok.hd hc) hr al (by omega) fun i v' h' tk bs hv hm' hk => ?_
          obtain ⟨d, z, e1, e2, e3, e4⟩ := item_rp r0 rv hv
          have pd := plain_at p e1
          obtain ⟨cs, hd⟩ := Rp.reads I d z v' pd (Rp.mono sm _ _ e4) e3
          have := PySem.SeqAt.plain_unique d _ v' cs bs pd (PySem.W.reads_keeps hk hd) hm'
          rw [← this] at k
          exact ⟨z, H, I.kept hk, e3, k F H _ (Grow.refl _ _) e4⟩
    · cases e
  · exact call_gMax hc hu pins s σ H xs us Q I r ⟨F, _, d, sm, l, q, e, k⟩
end
end TL

set_option Elab.async false
set_option linter.all false
set_option maxRecDepth 100000
set_option maxHeartbeats 2000000
/-! plain lemmas about the meanings of loops and comprehensions. -/
namespace TL
open PySem PySem.Spec PyProof.Rows L2
/-- a for that runs through -/
theorem forL_inv {α σ : Type} {b : D → Ev → Option Ev} {body : DS} {enc : α → D} (step : σ → α → σ) (I : σ → Ev → Prop) : ∀ {xs : List α} {s : σ} {ev : Ev},
    (∀ a ∈ xs, ∀ s ev, I s ev → ∃ ev1 ev2 fl, b (enc a) ev = some ev1 ∧ body ev1 = .ok (fl, ev2) ∧ (fl = .nx ∨ fl = .ct) ∧ I (step s a) ev2) → I s ev → ∃ ev', forL b body (xs.map enc) ev = .ok (.nx, ev') ∧ I (xs.foldl step s) ev'
  | [], s, ev, _, i => ⟨ev, rfl, i⟩
  | a :: xs, s, ev, h, i => by
    obtain ⟨ev1, ev2, fl, e1, e2, e3, i2⟩ := h a List.mem_cons_self s ev i
    obtain ⟨ev', e4, i3⟩ := forL_inv step I (fun x hx => h x (List.mem_cons_of_mem _ hx)) i2
    refine ⟨ev', ?_, i3⟩
    rw [List.map_cons]
    unfold forL
    rw [e1]
    simp only [lift_some, Res.bind_ok, e2]
    rcases e3 with rfl | rfl <;> exact e4
/-- .. with the place -/
theorem forL_ix {α σ : Type} {b : D → Ev → Option Ev} {body : DS} {enc : α → D} (step : σ → α → σ) (I : Nat → σ → Ev → Prop) : ∀ {xs : List α} (n : Nat) {s : σ} {ev : Ev},
    (∀ i a, xs[i]? = some a → ∀ s ev, I (n + i) s ev → ∃ ev1 ev2 fl, b (enc a) ev = some ev1 ∧ body ev1 = .ok (fl, ev2) ∧ (fl = .nx ∨ fl = .ct) ∧ I (n + i + 1) (step s a) ev2) → I n s ev → ∃ ev', forL b body (xs.map enc) ev = .ok (.nx, ev') ∧ I (n + xs.length) (xs.foldl step s) ev'
  | [], n, s, ev, _, i => ⟨ev, rfl, i⟩
  | a :: xs, n, s, ev, h, i => by
    obtain ⟨ev1, ev2, fl, e1, e2, e3, i2⟩ := h 0 a rfl s ev i
    obtain ⟨ev', e4, i3⟩ := forL_ix step I (xs := xs) (n + 1) (fun j x hx s ev q => by
      have := h (j + 1) x (by simpa using hx) s ev (by rw [show n + (j + 1) = n + 1 + j by omega]; exact q)
      rw [show n + (j + 1) + 1 = n + 1 + j + 1 by omega] at this
      exact this) i2
    refine ⟨ev', ?_, by rw [List.length_cons, show n + (xs.length + 1) = n + 1 + xs.length by omega]; exact i3⟩
    rw [List.map_cons]
    unfold forL
    rw [e1]
    simp only [lift_some, Res.bind_ok, e2]
    rcases e3 with rfl | rfl <;> exact e4
/-- .. whose state need not be told as a function of the items -/
theorem forL_all {b : D → Ev → Option Ev} {body : DS} (I : Ev → Prop) : ∀ {ds : List D} {ev : Ev},
    (∀ d ∈ ds, ∀ ev, I ev → ∃ ev1 ev2 fl, b d ev = some ev1 ∧ body ev1 = .ok (fl, ev2) ∧ (fl = .nx ∨ fl = .ct) ∧ I ev2) → I ev → ∃ ev', forL b body ds ev = .ok (.nx, ev') ∧ I ev'
  | [], ev, _, i => ⟨ev, rfl, i⟩
  | a :: xs, ev, h, i => by
    obtain ⟨ev1, ev2, fl, e1, e2, e3, i2⟩ := h a List.mem_cons_self ev i
    obtain ⟨ev', e4, i3⟩ := forL_all I (fun x hx => h x (List.mem_cons_of_mem _ hx)) i2
    refine ⟨ev', ?_, i3⟩
    unfold forL
    rw [e1]
    simp only [lift_some, Res.bind_ok, e2]
    rcases e3 with rfl | rfl <;> exact e4
/-- a for that returns at the first item that is not p -/
theorem forL_find {α : Type} {b : D → Ev → Option Ev} {body : DS} {enc : α → D} (p : α → Bool) (r : D) (I : Ev → Prop) : ∀ {xs : List α} {ev : Ev},
    (∀ a ∈ xs, ∀ ev, I ev → ∃ ev1 ev2, b (enc a) ev = some ev1 ∧ (if p a = true then body ev1 = .ok (.nx, ev2) ∧ I ev2 else body ev1 = .ok (.rt r, ev2) ∧ I ev2)) → I ev →
    ∃ ev', I ev' ∧ forL b body (xs.map enc) ev = .ok (if xs.all p = true then .nx else .rt r, ev')
  | [], ev, _, i => ⟨ev, i, rfl⟩
  | a :: xs, ev, h, i => by
    obtain ⟨ev1, ev2, e1, e2⟩ := h a List.mem_cons_self ev i
    rw [List.map_cons]
    unfold forL
    rw [e1]
    simp only [lift_some, Res.bind_ok]
    by_cases hp : p a = true
    · rw [if_pos hp] at e2
      obtain ⟨ev', i3, e4⟩ := forL_find p r I (fun x hx => h x (List.mem_cons_of_mem _ hx)) e2.2
      refine ⟨ev', i3, ?_⟩
      rw [e2.1]
      simp only [Res.bind_ok, List.all_cons, hp, Bool.true_and]
      exact e4
    · rw [if_neg hp] at e2
      refine ⟨ev2, e2.2, ?_⟩
      rw [e2.1]
      simp [hp]
/-- a comprehension that changes nothing but its own names -/
theorem compL_map {α : Type} {b : D → Ev → Option Ev} {m : DE} {vs : List Nat} {enc f : α → D} {W : Ev} : ∀ {xs : List α} {acc : List D},
    (∀ a ∈ xs, ∃ ev1 ev2, b (enc a) W = some ev1 ∧ m ev1 = .ok (.val (f a), ev2) ∧ wipeE ev2 vs = W) → compL b tYesD m vs (xs.map enc) acc W = .ok (acc ++ xs.map f, W)
  | [], acc, _ => by simp [compL]
  | a :: xs, acc, h => by
    obtain ⟨ev1, ev2, e1, e2, e3⟩ := h a List.mem_cons_self
    rw [List.map_cons]
    unfold compL
    rw [e1]
    simp only [lift_some, Res.bind_ok, tYesD, noErr_ok, cond_true, e2, toVal, e3]
    rw [compL_map (xs := xs) fun x hx => h x (List.mem_cons_of_mem _ hx)]
    simp
theorem compL_filter {α : Type} {b : D → Ev → Option Ev} {t : DT} {m : DE} {vs : List Nat} {enc f : α → D} {p : α → Bool} {W : Ev} : ∀ {xs : List α} {acc : List D},
    (∀ a ∈ xs, ∃ ev1 ev2, b (enc a) W = some ev1 ∧ t ev1 = .ok (p a, ev2) ∧ wipeE ev2 vs = W ∧ (p a = true → ∃ ev3, m ev2 = .ok (.val (f a), ev3) ∧ wipeE ev3 vs = W)) → compL b t m vs (xs.map enc) acc W = .ok (acc ++ (xs.filter p).map f, W)
  | [], acc, _ => by simp [compL]
  | a :: xs, acc, h => by
    obtain ⟨ev1, ev2, e1, e2, e3, e4⟩ := h a List.mem_cons_self
    rw [List.map_cons]
    unfold compL
    rw [e1]
    simp only [lift_some, Res.bind_ok, e2, noErr_ok]
    have ih := fun acc => compL_filter (xs := xs) (acc := acc) fun x hx => h x (List.mem_cons_of_mem _ hx)
    cases hp : p a with
    | false => simp only [cond_false, e3]; rw [ih]; simp [hp]
    | true =>
      obtain ⟨ev3, q1, q2⟩ := e4 hp
      simp only [cond_true, q1, noErr_ok, Res.bind_ok, toVal, q2]
      rw [ih]; simp [hp]
theorem oComp_map {α : Type} {it : DI} {vs : List Nat} {b : D → Ev → Option Ev} {m : DE} {ev : Ev} {xs : List α} (enc f : α → D) (hit : it ev = .ok (xs.map enc, ev)) (hl : xs.length ≤ sizeLine)
    (hx : ∀ a ∈ xs, ∃ ev1, b (enc a) (wipeE ev vs) = some ev1 ∧ m ev1 = .ok (.val (f a), ev1) ∧ wipeE ev1 vs = wipeE ev vs) (hb : backE ev (wipeE ev vs) vs = ev) : oComp it vs b tYesD m ev = .ok (.list (xs.map f), ev) := by
  unfold oComp
  rw [hit]
  simp only [Res.bind_ok, List.length_map, hl, if_true]
  rw [compL_map (f := f) fun a ha => let ⟨ev1, h1, h2, h3⟩ := hx a ha; ⟨ev1, ev1, h1, h2, h3⟩]
  simp only [Res.bind_ok, List.nil_append, hb]
theorem oComp_filter {α : Type} {it : DI} {vs : List Nat} {b : D → Ev → Option Ev} {t : DT} {m : DE} {ev : Ev} {xs : List α} (enc f : α → D) (p : α → Bool) (hit : it ev = .ok (xs.map enc, ev)) (hl : xs.length ≤ sizeLine)
    (hx : ∀ a ∈ xs, ∃ ev1 ev2, b (enc a) (wipeE ev vs) = some ev1 ∧ t ev1 = .ok (p a, ev2) ∧ wipeE ev2 vs = wipeE ev vs ∧ (p a = true → ∃ ev3, m ev2 = .ok (.val (f a), ev3) ∧ wipeE ev3 vs = wipeE ev vs)) (hb : backE ev (wipeE ev vs) vs = ev) : oComp it vs b t m ev = .ok (.list ((xs.filter p).map f), ev) := by
  unfold oComp
  rw [hit]
  simp only [Res.bind_ok, List.length_map, hl, if_true]
  rw [compL_filter (f := f) (p := p) hx]
  simp only [Res.bind_ok, List.nil_append, hb]
def iter {σ : Type} (f : σ → σ) : Nat → σ → σ
  | 0, s => s
  | n + 1, s => iter f n (f s)
/-- while -/
theorem whileN_inv {σ : Type} {t : DT} {body : DS} (step : σ → σ) (c : σ → Bool) (I : σ → Ev → Prop) (ht : ∀ s ev, I s ev → ∃ ev1, t ev = .ok (c s, ev1) ∧ I s ev1) (hb : ∀ s ev, I s ev → c s = true → ∃ ev1, body ev = .ok (.nx, ev1) ∧ I (step s) ev1) :
    ∀ (n m : Nat) (s : σ) (ev : Ev), I s ev → (∀ k, k < m → c (iter step k s) = true) → c (iter step m s) = false → m < n → ∃ ev', whileN t body n ev = .ok (.nx, ev') ∧ I (iter step m s) ev'
  | 0, m, s, ev, _, _, _, h => absurd h (Nat.not_lt_zero _)
  | n + 1, m, s, ev, i, h1, h2, h => by
    obtain ⟨ev1, e1, i1⟩ := ht s ev i
    unfold whileN
    rw [e1]
    simp only [Res.bind_ok]
    cases m with
    | zero =>
      have h2 : c s = false := h2
      rw [h2]
      exact ⟨ev1, rfl, i1⟩
    | succ m =>
      have h0 : c s = true := h1 0 (Nat.succ_pos _)
      rw [h0]
      obtain ⟨ev2, e2, i2⟩ := hb s ev1 i1 h0
      simp only [cond_true, e2, Res.bind_ok]
      exact whileN_inv step c I ht hb n m (step s) ev2 i2 (fun k hk => h1 (k + 1) (by omega)) h2 (by omega)
/-! ### simp: evaluation -/
section
variable {f : FnS} {ev : Ev} {a b c d : D}
@[simp] theorem z_lift_none {α : Type} : lift (none : Option α) = .stuck := rfl
@[simp] theorem z_get_val : (RV.val d).get ev = some d := rfl
@[simp] theorem z_get_slot {i : Nat} : (RV.slot i).get ev = (ev[i]?).join := rfl
@[simp] theorem z_toVal : toVal (.val d) ev = .ok (d, ev) := rfl
@[simp] theorem z_toVal_slot {i : Nat} : toVal (.slot i) ev = (lift (ev[i]?).join).bind fun d => .ok (d, ev.set i none) := rfl
@[simp] theorem z_vals_nil : vals [] ev = .ok ([], ev) := rfl
@[simp] theorem z_vals_cons {r : RV} {rs : List RV} : vals (r :: rs) ev = (toVal r ev).bind fun p => (vals rs p.2).bind fun q => .ok (p.1 :: q.1, q.2) := rfl
@[simp] theorem z_gets_nil : gets [] ev = some [] := rfl
@[simp] theorem z_gets_cons {r : RV} {rs : List RV} : gets (r :: rs) ev = (r.get ev).bind fun d => (gets rs ev).bind fun ds => some (d :: ds) := rfl
@[simp] theorem z_toBool {k : Bool} : TL.toBool (.bool k) = some k := rfl
@[simp] theorem z_toInt {i : Int} : TL.toInt (.int i) = some i := rfl
@[simp] theorem z_tru_b {k : Bool} : truD (.bool k) = some k := rfl
@[simp] theorem z_lstOf {ds : List D} : lstOf (.list ds) = some ds := rfl
@[simp] theorem z_noErr_stuck {α : Type} : noErr (Res.stuck : Res α) = .stuck := rfl
@[simp] theorem z_len_t {xs : List D} : gLen [.tuple xs] = some (.int xs.length) := rfl
@[simp] theorem z_len_l {xs : List D} : gLen [.list xs] = some (.int xs.length) := rfl
@[simp] theorem z_le {i j : Int} : gLe (.int i) (.int j) = some (.bool (decide (i ≤ j))) := rfl
@[simp] theorem z_lt {i j : Int} : gLt (.int i) (.int j) = some (.bool (decide (i < j))) := rfl
@[simp] theorem z_ge {i j : Int} : gGe (.int i) (.int j) = some (.bool (decide (j ≤ i))) := rfl
@[simp] theorem z_gt {i j : Int} : gGt (.int i) (.int j) = some (.bool (decide (j < i))) := rfl
@[simp] theorem z_sub {i j : Int} : TL.gSub (.int i) (.int j) = some (.int (i - j)) := rfl
@[simp] theorem z_add {i j : Int} : gAdd (.int i) (.int j) = some (.int (i + j)) := rfl
@[simp] theorem z_neg {i : Int} : gNeg (.int i) = some (.int (-i)) := rfl
@[simp] theorem z_ixt {xs : List D} {i : Int} : gIx (.tuple xs) (.int i) = atI xs i := rfl
@[simp] theorem z_ixl {xs : List D} {i : Int} : gIx (.list xs) (.int i) = atI xs i := rfl
@[simp] theorem z_rev_t {xs : List D} : gRev (.tuple xs) = some (.tuple xs.reverse) := rfl
@[simp] theorem z_rev_l {xs : List D} : gRev (.list xs) = some (.list xs.reverse) := rfl
@[simp] theorem z_tup_l {xs : List D} : gTuple [.list xs] = some (.tuple xs) := rfl
@[simp] theorem z_tup_t {xs : List D} : gTuple [.tuple xs] = some (.tuple xs) := rfl
@[simp] theorem z_lst_l {xs : List D} : gList [.list xs] = some (.list xs) := rfl
@[simp] theorem z_lst_t {xs : List D} : gList [.tuple xs] = some (.list xs) := rfl
@[simp] theorem z_int {i : Int} : gInt [.int i] = some (.int i) := rfl
@[simp] theorem z_abs {i : Int} : gAbs [.int i] = some (.int (if i < 0 then -i else i)) := rfl
@[simp] theorem z_seq_t {xs : List D} : seqOf (.tuple xs) = some xs := rfl
@[simp] theorem z_seq_l {xs : List D} : seqOf (.list xs) = some xs := rfl
@[simp] theorem z_sl_t {xs : List D} {l h : Option Int} : gSl l h (.tuple xs) = some (.tuple (cutL xs l h)) := rfl
@[simp] theorem z_sl_l {xs : List D} {l h : Option Int} : gSl l h (.list xs) = some (.list (cutL xs l h)) := rfl
@[simp] theorem z_add_t {xs ys : List D} : gAdd (.tuple xs) (.tuple ys) = if xs.length + ys.length ≤ sizeLine then some (.tuple (xs ++ ys)) else none := rfl
@[simp] theorem z_add_l {xs ys : List D} : gAdd (.list xs) (.list ys) = if xs.length + ys.length ≤ sizeLine then some (.list (xs ++ ys)) else none := rfl
@[simp] theorem z_bName {i : Nat} : bName i d ev = some (ev.set i (some d)) := rfl
@[simp] theorem z_bNil : bNil [] ev = some ev := rfl
@[simp] theorem z_bCons {t : D → Ev → Option Ev} {ts : List D → Ev → Option Ev} {ds : List D} : bCons t ts (d :: ds) ev = (t d ev).bind (ts ds) := rfl
@[simp] theorem z_bTup {n : Nat} {ts : List D → Ev → Option Ev} {ds : List D} : bTup n ts (.tuple ds) ev = if ds.length = n then ts ds ev else none := rfl
@[simp] theorem z_set_nil {ev : Ev} : setAll [] [] ev = some ev := rfl
@[simp] theorem z_set_v {i : Nat} {is : List Nat} {as : List AV} : setAll (i :: is) (.v d :: as) ev = setAll is as (ev.set i (some d)) := rfl
@[simp] theorem z_set_o {i : Nat} {is : List Nat} {as : List AV} : setAll (i :: is) (.o d :: as) ev = setAll is as (ev.set i (some d)) := rfl
@[simp] theorem z_it_nil : evIt [] ev = .ok ([], ev) := rfl
@[simp] theorem z_it_v {m : DE} {r : List Itm} : evIt (.v m :: r) ev = (m ev).bind fun p => (toVal p.1 p.2).bind fun q => (evIt r q.2).bind fun t => .ok (.v q.1 :: t.1, t.2) := rfl
@[simp] theorem z_it_o {m : DO} {r : List Itm} : evIt (.o m :: r) ev = (m ev).bind fun p => (evIt r p.2).bind fun t => .ok (.o p.1 :: t.1, t.2) := rfl
@[simp] theorem z_eq_i {i j : Int} : gEq (.int i) (.int j) = some (.bool (i == j)) := by simp [gEq, okD, PyData.plain, PyData.depth, PyData.eqv]
@[simp] theorem z_ne_i {i j : Int} : gNe (.int i) (.int j) = some (.bool (!(i == j))) := by simp [gNe, okD, PyData.plain, PyData.depth, PyData.eqv]
theorem z_atn {xs : List D} {i : Nat} (h : i < xs.length) : atI xs (i : Int) = xs[i]? := by
  have e : ixN xs.length (i : Int) = some i := by
    unfold ixN
    rw [if_pos (by omega), if_pos (by omega)]
    simp
  unfold atI; rw [e]; rfl
@[simp] theorem z_at0 {x : D} {xs : List D} : atI (x :: xs) 0 = some x := z_atn (i := 0) (by simp)
@[simp] theorem z_at1 {x y : D} {xs : List D} : atI (x :: y :: xs) 1 = some y := z_atn (i := 1) (by simp)
theorem z_atm {xs : List D} (h : xs ≠ []) : atI xs (-1) = xs.getLast? := by
  have h0 : 0 < xs.length := List.length_pos_iff.mpr h
  have e : ixN xs.length (-1) = some (xs.length - 1) := by
    unfold ixN
    rw [if_neg (by omega), if_pos (by omega)]
    congr 1
    omega
  unfold atI; rw [e, List.getLast?_eq_getElem?]; rfl
theorem z_cut_nk {xs : List D} {k : Nat} (h : k ≤ xs.length) : cutL xs none (some (k : Int)) = xs.take k := by
  unfold cutL; rw [HT.sIx_none, HT.sIx_nat]; simp [Nat.min_eq_left h]
theorem z_cut_kn {xs : List D} {k : Nat} (h : k ≤ xs.length) : cutL xs (some (k : Int)) none = xs.drop k := by
  unfold cutL; rw [HT.sIx_none, HT.sIx_nat, Nat.min_eq_left h]
  exact List.take_of_length_le (by simp)
theorem z_cut_kk {xs : List D} {i j : Nat} (h : i ≤ xs.length) (h2 : j ≤ xs.length) : cutL xs (some (i : Int)) (some (j : Int)) = (xs.drop i).take (j - i) := by
  unfold cutL; rw [HT.sIx_nat, HT.sIx_nat, Nat.min_eq_left h, Nat.min_eq_left h2]
theorem z_cut_m {xs : List D} : cutL xs none (some (-1)) = xs.dropLast := by
  unfold cutL; rw [HT.sIx_none]
  have e : HT.sIx xs.length xs.length (some (-1)) = xs.length - 1 := by
    unfold HT.sIx; simp; omega
  rw [e, List.dropLast_eq_take]; simp
theorem z_cut_1m {xs : List D} (h : 1 ≤ xs.length) : cutL xs (some 1) (some (-1)) = (xs.drop 1).take (xs.length - 2) := by
  unfold cutL
  have e : HT.sIx xs.length xs.length (some (-1)) = xs.length - 1 := by
    unfold HT.sIx; simp; omega
  have e2 : HT.sIx xs.length 0 (some 1) = 1 := by
    unfold HT.sIx; simp; omega
  rw [e, e2]
  congr 1
theorem iter_succ : ∀ (m s : Nat), iter (· + 1) m s = s + m
  | 0, s => rfl
  | m + 1, s => by show iter (· + 1) m (s + 1) = _; rw [iter_succ m]; omega
/-- the first place from k on, of at most n looked at, at which c fails -/
def cnt (c : Nat → Bool) : Nat → Nat → Nat
  | 0, k => k
  | n + 1, k => if c k = true then cnt c n (k + 1) else k
theorem cnt_spec {c : Nat → Bool} : ∀ (n k : Nat), k ≤ cnt c n k ∧ cnt c n k ≤ k + n ∧ (∀ j, k ≤ j → j < cnt c n k → c j = true) ∧ (cnt c n k = k + n ∨ c (cnt c n k) = false)
  | 0, k => ⟨Nat.le_refl _, Nat.le_refl _, fun j h1 h2 => absurd h2 (by show ¬ j < k; omega), .inl rfl⟩
  | n + 1, k => by
    unfold cnt
    by_cases h : c k = true
    · rw [if_pos h]
      obtain ⟨h1, h2, h3, h4⟩ := cnt_spec (c := c) n (k + 1)
      refine ⟨by omega, by omega, fun j a b => ?_, h4.imp (fun z => by omega) id⟩
      by_cases e : j = k
      · rw [e]; exact h
      · exact h3 j (by omega) b
    · rw [if_neg h]
      exact ⟨Nat.le_refl _, by omega, fun j a b => absurd b (by omega), .inr (by simpa using h)⟩
theorem rng_ok {n : Nat} (h : n < 1000000) : rngD1 [.int (n : Int)] = some ((List.range n).map fun i => .int (i : Nat)) := by
  have h1 : -(2 ^ 62) ≤ (n : Int) := by omega
  have h2 : (n : Int) < 2 ^ 62 := by omega
  simp only [rngD1, h1, h2, and_self, if_true, Int.toNat_natCast, Int.zero_add]
theorem iRng1_ok {ms : DA} {ev ev' : Ev} {n : Nat} (h : ms ev = .ok ([.val (.int (n : Int))], ev')) (hn : n < 1000000) : TL.iRng1 ms ev = .ok ((List.range n).map fun i => .int (i : Nat), ev') := by
  have key : ∀ (g : List D → Option (List D)) (zs : List D), g [.int (n : Int)] = some zs → ((ms ev).bind fun p => (lift (gets p.1 p.2)).bind fun ds => (lift (g ds)).bind fun r => Res.ok (r, p.2)) = .ok (zs, ev') := by
    intro g zs hg
    rw [h]
    simp [hg]
  exact key rngD1 _ (rng_ok hn)
/-- calls of defs without an io parameter, of values -/
theorem z_call1 (h : f.io = none) : callD f [.val a] ev = (f.m [a]).bind fun r => .ok (r.1, ev) := by
  unfold callD ioSlot lends; rw [h]; simp [putIo]
theorem z_call2 (h : f.io = none) : callD f [.val a, .val b] ev = (f.m [a, b]).bind fun r => .ok (r.1, ev) := by
  unfold callD ioSlot lends; rw [h]; simp [putIo]
theorem z_call3 (h : f.io = none) : callD f [.val a, .val b, .val c] ev = (f.m [a, b, c]).bind fun r => .ok (r.1, ev) := by
  unfold callD ioSlot lends; rw [h]; simp [putIo]
/-- .. with the object of the slot j as the first -/
theorem z_io1 {j : Nat} (h : f.io = some 0) : callD f [.slot j] ev = (lift (ev[j]?).join).bind fun d => (f.m [d]).bind fun r => .ok (r.1, ev.set j (some r.2)) := by
  unfold callD ioSlot lends; rw [h]; cases hq : (ev[j]?).join <;> simp [putIo, hq]
theorem z_io2 {j : Nat} (h : f.io = some 0) : callD f [.slot j, .val a] ev = (lift (ev[j]?).join).bind fun d => (f.m [d, a]).bind fun r => .ok (r.1, ev.set j (some r.2)) := by
  unfold callD ioSlot lends; rw [h]; cases hq : (ev[j]?).join <;> simp [putIo, hq, isSlot]
theorem z_io3 {j : Nat} (h : f.io = some 0) : callD f [.slot j, .val a, .val b] ev = (lift (ev[j]?).join).bind fun d => (f.m [d, a, b]).bind fun r => .ok (r.1, ev.set j (some r.2)) := by
  unfold callD ioSlot lends; rw [h]; cases hq : (ev[j]?).join <;> simp [putIo, hq, isSlot]
end
end TL

set_option Elab.async false
set_option linter.all false
set_option maxRecDepth 100000
set_option maxHeartbeats 4000000
/-! the walk of k75_whole_likenesses; written by gen.py. -/
namespace WL
open PySem PySem.Spec PyProof.Rows L2 HotX L2H LamX TL
abbrev PR : Program := PySem.Challenge.pw_tautlines_k75_whole_likenesses
def top (i : Nat) : Stmt := PR.main.body.getD i (.Pass ⟨0, 0, 0, 0⟩)
abbrev s_is_whole : Stmt := top 4
abbrev N_is_whole : List Str := ["value", "low", "high"]
theorem sc_is_whole : FnScope N_is_whole ["value", "low", "high"] (defScope s_is_whole) := ⟨rfl, rfl, rfl, by decide +kernel, rfl, by decide +kernel, by decide +kernel⟩
abbrev s_is_tuple_of : Stmt := top 5
abbrev N_is_tuple_of : List Str := ["value", "low", "high"]
theorem sc_is_tuple_of : FnScope N_is_tuple_of ["value", "low", "high"] (defScope s_is_tuple_of) := ⟨rfl, rfl, rfl, by decide +kernel, rfl, by decide +kernel, by decide +kernel⟩
abbrev s_is_ascending : Stmt := top 6
abbrev N_is_ascending : List Str := ["values", "one", "other"]
theorem sc_is_ascending : FnScope N_is_ascending ["values"] (defScope s_is_ascending) := ⟨rfl, rfl, rfl, by decide +kernel, rfl, by decide +kernel, by decide +kernel⟩
abbrev s_is_cell : Stmt := top 10
abbrev N_is_cell : List Str := ["value", "one"]
theorem sc_is_cell : FnScope N_is_cell ["value"] (defScope s_is_cell) := ⟨rfl, rfl, rfl, by decide +kernel, rfl, by decide +kernel, by decide +kernel⟩
abbrev s_are_cells : Stmt := top 11
abbrev N_are_cells : List Str := ["value", "one"]
theorem sc_are_cells : FnScope N_are_cells ["value"] (defScope s_are_cells) := ⟨rfl, rfl, rfl, by decide +kernel, rfl, by decide +kernel, by decide +kernel⟩
abbrev s_neighbours_of : Stmt := top 12
abbrev N_neighbours_of : List Str := ["cell", "x", "y"]
theorem sc_neighbours_of : FnScope N_neighbours_of ["cell"] (defScope s_neighbours_of) := ⟨rfl, rfl, rfl, by decide +kernel, rfl, by decide +kernel, by decide +kernel⟩
abbrev s_corners_of : Stmt := top 13
abbrev N_corners_of : List Str := ["cell", "x", "y"]
theorem sc_corners_of : FnScope N_corners_of ["cell"] (defScope s_corners_of) := ⟨rfl, rfl, rfl, by decide +kernel, rfl, by decide +kernel, by decide +kernel⟩
abbrev s_do_hang : Stmt := top 14
abbrev N_do_hang : List Str := ["cells", "left", "line", "turn", "other", "cell"]
theorem sc_do_hang : FnScope N_do_hang ["cells"] (defScope s_do_hang) := ⟨rfl, rfl, rfl, by decide +kernel, rfl, by decide +kernel, by decide +kernel⟩
abbrev s_counts_in : Stmt := top 15
abbrev N_counts_in : List Str := ["cells", "corners", "sides", "cell", "points", "one", "other"]
theorem sc_counts_in : FnScope N_counts_in ["cells"] (defScope s_counts_in) := ⟨rfl, rfl, rfl, by decide +kernel, rfl, by decide +kernel, by decide +kernel⟩
abbrev s_is_piece : Stmt := top 16
abbrev N_is_piece : List Str := ["value", "corners", "sides", "cells"]
theorem sc_is_piece : FnScope N_is_piece ["value"] (defScope s_is_piece) := ⟨rfl, rfl, rfl, by decide +kernel, rfl, by decide +kernel, by decide +kernel⟩
abbrev s_need_piece : Stmt := top 17
abbrev N_need_piece : List Str := ["value"]
theorem sc_need_piece : FnScope N_need_piece ["value"] (defScope s_need_piece) := ⟨rfl, rfl, rfl, by decide +kernel, rfl, by decide +kernel, by decide +kernel⟩
abbrev s_placed_in : Stmt := top 19
abbrev N_placed_in : List Str := ["cells", "left", "low", "x", "y"]
theorem sc_placed_in : FnScope N_placed_in ["cells"] (defScope s_placed_in) := ⟨rfl, rfl, rfl, by decide +kernel, rfl, by decide +kernel, by decide +kernel⟩
abbrev s_turned_in : Stmt := top 20
abbrev N_turned_in : List Str := ["cells", "x", "y"]
theorem sc_turned_in : FnScope N_turned_in ["cells"] (defScope s_turned_in) := ⟨rfl, rfl, rfl, by decide +kernel, rfl, by decide +kernel, by decide +kernel⟩
abbrev s_mirrored_in : Stmt := top 21
abbrev N_mirrored_in : List Str := ["cells", "x", "y"]
theorem sc_mirrored_in : FnScope N_mirrored_in ["cells"] (defScope s_mirrored_in) := ⟨rfl, rfl, rfl, by decide +kernel, rfl, by decide +kernel, by decide +kernel⟩
abbrev s_forms_of : Stmt := top 22
abbrev N_forms_of : List Str := ["piece", "found", "is_mirrored", "cells", "turns"]
theorem sc_forms_of : FnScope N_forms_of ["piece"] (defScope s_forms_of) := ⟨rfl, rfl, rfl, by decide +kernel, rfl, by decide +kernel, by decide +kernel⟩
abbrev s_placed : Stmt := top 23
abbrev N_placed : List Str := ["piece"]
theorem sc_placed : FnScope N_placed ["piece"] (defScope s_placed) := ⟨rfl, rfl, rfl, by decide +kernel, rfl, by decide +kernel, by decide +kernel⟩
abbrev s_turned : Stmt := top 24
abbrev N_turned : List Str := ["piece"]
theorem sc_turned : FnScope N_turned ["piece"] (defScope s_turned) := ⟨rfl, rfl, rfl, by decide +kernel, rfl, by decide +kernel, by decide +kernel⟩
abbrev s_mirrored : Stmt := top 25
abbrev N_mirrored : List Str := ["piece"]
theorem sc_mirrored : FnScope N_mirrored ["piece"] (defScope s_mirrored) := ⟨rfl, rfl, rfl, by decide +kernel, rfl, by decide +kernel, by decide +kernel⟩
abbrev s_least_in : Stmt := top 26
abbrev N_least_in : List Str := ["piece", "turns", "is_mirrored", "cells"]
theorem sc_least_in : FnScope N_least_in ["piece"] (defScope s_least_in) := ⟨rfl, rfl, rfl, by decide +kernel, rfl, by decide +kernel, by decide +kernel⟩
abbrev s_least_form : Stmt := top 27
abbrev N_least_form : List Str := ["piece"]
theorem sc_least_form : FnScope N_least_form ["piece"] (defScope s_least_form) := ⟨rfl, rfl, rfl, by decide +kernel, rfl, by decide +kernel, by decide +kernel⟩
abbrev s_are_alike : Stmt := top 28
abbrev N_are_alike : List Str := ["piece", "other"]
theorem sc_are_alike : FnScope N_are_alike ["piece", "other"] (defScope s_are_alike) := ⟨rfl, rfl, rfl, by decide +kernel, rfl, by decide +kernel, by decide +kernel⟩
abbrev s_symmetries : Stmt := top 29
abbrev N_symmetries : List Str := ["piece", "own", "turns", "is_mirrored", "cells"]
theorem sc_symmetries : FnScope N_symmetries ["piece"] (defScope s_symmetries) := ⟨rfl, rfl, rfl, by decide +kernel, rfl, by decide +kernel, by decide +kernel⟩
abbrev s__law_cup : Stmt := top 31
abbrev N__law_cup : List Str := ["script", "cell"]
theorem sc__law_cup : FnScope N__law_cup ["script"] (defScope s__law_cup) := ⟨rfl, rfl, rfl, by decide +kernel, rfl, by decide +kernel, by decide +kernel⟩
abbrev s__law_roll : Stmt := top 32
abbrev N__law_roll : List Str := ["cup", "many", "deep", "found"]
theorem sc__law_roll : FnScope N__law_roll ["cup", "many"] (defScope s__law_roll) := ⟨rfl, rfl, rfl, by decide +kernel, rfl, by decide +kernel, by decide +kernel⟩
abbrev s__law_some : Stmt := top 33
abbrev N__law_some : List Str := ["cup", "things"]
theorem sc__law_some : FnScope N__law_some ["cup", "things"] (defScope s__law_some) := ⟨rfl, rfl, rfl, by decide +kernel, rfl, by decide +kernel, by decide +kernel⟩
abbrev s__law_sort : Stmt := top 34
abbrev N__law_sort : List Str := ["value"]
theorem sc__law_sort : FnScope N__law_sort ["value"] (defScope s__law_sort) := ⟨rfl, rfl, rfl, by decide +kernel, rfl, by decide +kernel, by decide +kernel⟩
abbrev s__law_like : Stmt := top 35
abbrev N__law_like : List Str := ["one", "other", "sort", "first", "second"]
theorem sc__law_like : FnScope N__law_like ["one", "other"] (defScope s__law_like) := ⟨rfl, rfl, rfl, by decide +kernel, rfl, by decide +kernel, by decide +kernel⟩
abbrev s__law_grown : Stmt := top 36
abbrev N__law_grown : List Str := ["cup", "many", "cells", "turn", "x", "y", "other"]
theorem sc__law_grown : FnScope N__law_grown ["cup", "many"] (defScope s__law_grown) := ⟨rfl, rfl, rfl, by decide +kernel, rfl, by decide +kernel, by decide +kernel⟩
abbrev s__law_stays : Stmt := top 37
abbrev N__law_stays : List Str := ["cells", "cell", "x", "y", "around", "flags", "changes", "lone", "one", "at", "other"]
theorem sc__law_stays : FnScope N__law_stays ["cells", "cell"] (defScope s__law_stays) := ⟨rfl, rfl, rfl, by decide +kernel, rfl, by decide +kernel, by decide +kernel⟩
abbrev s__law_placed : Stmt := top 38
abbrev N__law_placed : List Str := ["cells", "left", "low", "x", "y"]
theorem sc__law_placed : FnScope N__law_placed ["cells"] (defScope s__law_placed) := ⟨rfl, rfl, rfl, by decide +kernel, rfl, by decide +kernel, by decide +kernel⟩
abbrev s__law_turned : Stmt := top 39
abbrev N__law_turned : List Str := ["cells", "x", "y"]
theorem sc__law_turned : FnScope N__law_turned ["cells"] (defScope s__law_turned) := ⟨rfl, rfl, rfl, by decide +kernel, rfl, by decide +kernel, by decide +kernel⟩
abbrev s__law_mirrored : Stmt := top 40
abbrev N__law_mirrored : List Str := ["cells", "x", "y"]
theorem sc__law_mirrored : FnScope N__law_mirrored ["cells"] (defScope s__law_mirrored) := ⟨rfl, rfl, rfl, by decide +kernel, rfl, by decide +kernel, by decide +kernel⟩
abbrev s__law_stairs : Stmt := top 41
abbrev N__law_stairs : List Str := ["many", "at"]
theorem sc__law_stairs : FnScope N__law_stairs ["many"] (defScope s__law_stairs) := ⟨rfl, rfl, rfl, by decide +kernel, rfl, by decide +kernel, by decide +kernel⟩
abbrev s__law_error : Stmt := top 42
abbrev N__law_error : List Str := ["call", "e", "some", "word", "good"]
theorem sc__law_error : FnScope N__law_error ["call"] (defScope s__law_error) := ⟨rfl, rfl, rfl, by decide +kernel, rfl, by decide +kernel, by decide +kernel⟩
abbrev s__law_forms : Stmt := top 43
abbrev N__law_forms : List Str := ["piece", "found", "is_mirrored", "cells", "turns"]
theorem sc__law_forms : FnScope N__law_forms ["piece"] (defScope s__law_forms) := ⟨rfl, rfl, rfl, by decide +kernel, rfl, by decide +kernel, by decide +kernel⟩
abbrev s__law_right : Stmt := top 44
abbrev N__law_right : List Str := ["cup", "piece", "forms", "own", "same", "told", "turns", "is_mirrored", "cells", "right", "up", "other", "x", "y"]
theorem sc__law_right : FnScope N__law_right ["cup", "piece"] (defScope s__law_right) := ⟨rfl, rfl, rfl, by decide +kernel, rfl, by decide +kernel, by decide +kernel⟩
abbrev s_law : Stmt := top 45
abbrev N_law : List Str := ["script", "cup", "turn", "small", "skew", "told", "due", "at", "square", "bar", "arms", "step", "wheel", "hook", "rows", "piece", "many", "odds", "words", "odd", "one", "other", "turns", "is_mirrored", "cells", "x", "y", "call"]
theorem sc_law : FnScope N_law ["script"] (defScope s_law) := ⟨rfl, rfl, rfl, by decide +kernel, rfl, by decide +kernel, by decide +kernel⟩
/-! ### facts -/
structure Facts (K : PySem.W.Frag) (mg : Str → Option Value) : Prop where
  b_isinstance : mg "isinstance" = none
  b_int : mg "int" = none
  b_bool : mg "bool" = none
  b_tuple : mg "tuple" = none
  b_len : mg "len" = none
  b_zip : mg "zip" = none
  b_all : mg "all" = none
  c_FAR : ∃ t, mg "FAR" = some (.int (1000) t)
  c_CELLS : ∃ t, mg "CELLS" = some (.int (60) t)
  b_dict : mg "dict" = none
  b_range : mg "range" = none
  b_max : mg "max" = none
  b_min : mg "min" = none
  e_InvalidPiece : PySem.W.excIn K (He.ga K "InvalidPiece") He.veBase "ValueError.__new__" = true ∧ PySem.W.keepIn K (.ref (He.ga K "InvalidPiece")) = true ∧ PySem.W.subIn K (.ref (He.ga K "InvalidPiece")) (.type "BaseException") = some true ∧ PySem.W.typeIn K (.ref (He.ga K "InvalidPiece")) = some (.type "type")
  g_InvalidPiece : mg "InvalidPiece" = some (.ref (He.ga K "InvalidPiece"))
  b_sorted : mg "sorted" = none
  b_list : mg "list" = none
  b_abs : mg "abs" = none
  b_str : mg "str" = none
  g_symmetries : mg "symmetries" = some (.ref (He.ga K "symmetries"))
  g_least_form : mg "least_form" = some (.ref (He.ga K "least_form"))
  g_mirrored : mg "mirrored" = some (.ref (He.ga K "mirrored"))
  g_turned : mg "turned" = some (.ref (He.ga K "turned"))
  g_placed : mg "placed" = some (.ref (He.ga K "placed"))
  g_is_whole : mg "is_whole" = some (.ref (He.ga K "is_whole"))
  d_is_whole : FnP K "is_whole" s_is_whole
  g_is_tuple_of : mg "is_tuple_of" = some (.ref (He.ga K "is_tuple_of"))
  d_is_tuple_of : FnP K "is_tuple_of" s_is_tuple_of
  g_is_ascending : mg "is_ascending" = some (.ref (He.ga K "is_ascending"))
  d_is_ascending : FnP K "is_ascending" s_is_ascending
  g_is_cell : mg "is_cell" = some (.ref (He.ga K "is_cell"))
  d_is_cell : FnP K "is_cell" s_is_cell
  g_are_cells : mg "are_cells" = some (.ref (He.ga K "are_cells"))
  d_are_cells : FnP K "are_cells" s_are_cells
  g_neighbours_of : mg "neighbours_of" = some (.ref (He.ga K "neighbours_of"))
  d_neighbours_of : FnP K "neighbours_of" s_neighbours_of
  g_corners_of : mg "corners_of" = some (.ref (He.ga K "corners_of"))
  d_corners_of : FnP K "corners_of" s_corners_of
  g_do_hang : mg "do_hang" = some (.ref (He.ga K "do_hang"))
  d_do_hang : FnP K "do_hang" s_do_hang
  g_counts_in : mg "counts_in" = some (.ref (He.ga K "counts_in"))
  d_counts_in : FnP K "counts_in" s_counts_in
  g_is_piece : mg "is_piece" = some (.ref (He.ga K "is_piece"))
  d_is_piece : FnP K "is_piece" s_is_piece
  g_need_piece : mg "need_piece" = some (.ref (He.ga K "need_piece"))
  d_need_piece : FnP K "need_piece" s_need_piece
  g_placed_in : mg "placed_in" = some (.ref (He.ga K "placed_in"))
  d_placed_in : FnP K "placed_in" s_placed_in
  g_turned_in : mg "turned_in" = some (.ref (He.ga K "turned_in"))
  d_turned_in : FnP K "turned_in" s_turned_in
  g_mirrored_in : mg "mirrored_in" = some (.ref (He.ga K "mirrored_in"))
  d_mirrored_in : FnP K "mirrored_in" s_mirrored_in
  g_forms_of : mg "forms_of" = some (.ref (He.ga K "forms_of"))
  d_forms_of : FnP K "forms_of" s_forms_of
  d_placed : FnP K "placed" s_placed
  d_turned : FnP K "turned" s_turned
  d_mirrored : FnP K "mirrored" s_mirrored
  g_least_in : mg "least_in" = some (.ref (He.ga K "least_in"))
  d_least_in : FnP K "least_in" s_least_in
  d_least_form : FnP K "least_form" s_least_form
  g_are_alike : mg "are_alike" = some (.ref (He.ga K "are_alike"))
  d_are_alike : FnP K "are_alike" s_are_alike
  d_symmetries : FnP K "symmetries" s_symmetries
  g__law_cup : mg "_law_cup" = some (.ref (He.ga K "_law_cup"))
  d__law_cup : FnP K "_law_cup" s__law_cup
  g__law_roll : mg "_law_roll" = some (.ref (He.ga K "_law_roll"))
  d__law_roll : FnP K "_law_roll" s__law_roll
  g__law_some : mg "_law_some" = some (.ref (He.ga K "_law_some"))
  d__law_some : FnP K "_law_some" s__law_some
  g__law_sort : mg "_law_sort" = some (.ref (He.ga K "_law_sort"))
  d__law_sort : FnP K "_law_sort" s__law_sort
  g__law_like : mg "_law_like" = some (.ref (He.ga K "_law_like"))
  d__law_like : FnP K "_law_like" s__law_like
  g__law_stays : mg "_law_stays" = some (.ref (He.ga K "_law_stays"))
  d__law_stays : FnP K "_law_stays" s__law_stays
  g__law_grown : mg "_law_grown" = some (.ref (He.ga K "_law_grown"))
  d__law_grown : FnP K "_law_grown" s__law_grown
  g__law_placed : mg "_law_placed" = some (.ref (He.ga K "_law_placed"))
  d__law_placed : FnP K "_law_placed" s__law_placed
  g__law_turned : mg "_law_turned" = some (.ref (He.ga K "_law_turned"))
  d__law_turned : FnP K "_law_turned" s__law_turned
  g__law_mirrored : mg "_law_mirrored" = some (.ref (He.ga K "_law_mirrored"))
  d__law_mirrored : FnP K "_law_mirrored" s__law_mirrored
  g__law_stairs : mg "_law_stairs" = some (.ref (He.ga K "_law_stairs"))
  d__law_stairs : FnP K "_law_stairs" s__law_stairs
  g__law_error : mg "_law_error" = some (.ref (He.ga K "_law_error"))
  d__law_error : FnP K "_law_error" s__law_error
  g_TautError : mg "TautError" = some (.ref (He.ga K "TautError"))
  g__law_forms : mg "_law_forms" = some (.ref (He.ga K "_law_forms"))
  d__law_forms : FnP K "_law_forms" s__law_forms
  g__law_right : mg "_law_right" = some (.ref (He.ga K "_law_right"))
  d__law_right : FnP K "_law_right" s__law_right
  g_law : mg "law" = some (.ref (He.ga K "law"))
  d_law : FnP K "law" s_law
  x_InvalidPiece : PySem.W.exmOne K (.ref (He.ga K "InvalidPiece")) (.ref (He.ga K "TautError")) = some true
  i_InvalidPiece : ExcC K (He.ga K "InvalidPiece")
  k_InvalidPiece_CC_InvalidPiece : PySem.W.kitOne K (.ref (He.ga K "InvalidPiece")) (.ref (He.ga K "InvalidPiece")) = some true
/-! ### meanings -/
variable (T0 : List (Addr × Str))
/-- isinstance(e, C), e of the class cl -/
def isb (cl : Str) : Str → Option Bool := fun c => if cl = "InvalidPiece" then (if c = "InvalidPiece" then some true else none) else none
def wd (c : Str) : Option Str := if c = "InvalidPiece" then some "piece error" else none
abbrev S_is_whole : Sx := ⟨fun i => false, fun i => false, []⟩
abbrev S_is_tuple_of : Sx := ⟨fun i => false, fun i => false, []⟩
abbrev S_is_ascending : Sx := ⟨fun i => false, fun i => false, []⟩
abbrev S_is_cell : Sx := ⟨fun i => false, fun i => false, []⟩
abbrev S_are_cells : Sx := ⟨fun i => false, fun i => false, []⟩
abbrev S_neighbours_of : Sx := ⟨fun i => false, fun i => false, []⟩
abbrev S_corners_of : Sx := ⟨fun i => false, fun i => false, []⟩
abbrev S_do_hang : Sx := ⟨fun i => i == 1 || i == 2, fun i => false, []⟩
abbrev S_counts_in : Sx := ⟨fun i => i == 1 || i == 2, fun i => false, []⟩
abbrev S_is_piece : Sx := ⟨fun i => false, fun i => false, []⟩
abbrev S_need_piece : Sx := ⟨fun i => false, fun i => false, []⟩
abbrev S_placed_in : Sx := ⟨fun i => false, fun i => false, []⟩
abbrev S_turned_in : Sx := ⟨fun i => false, fun i => false, []⟩
abbrev S_mirrored_in : Sx := ⟨fun i => false, fun i => false, []⟩
abbrev S_forms_of : Sx := ⟨fun i => i == 1, fun i => false, []⟩
abbrev S_placed : Sx := ⟨fun i => false, fun i => false, []⟩
abbrev S_turned : Sx := ⟨fun i => false, fun i => false, []⟩
abbrev S_mirrored : Sx := ⟨fun i => false, fun i => false, []⟩
abbrev S_least_in : Sx := ⟨fun i => false, fun i => false, []⟩
abbrev S_least_form : Sx := ⟨fun i => false, fun i => false, []⟩
abbrev S_are_alike : Sx := ⟨fun i => false, fun i => false, []⟩
abbrev S_symmetries : Sx := ⟨fun i => false, fun i => false, []⟩
abbrev S__law_cup : Sx := ⟨fun i => false, fun i => false, []⟩
abbrev S__law_roll : Sx := ⟨fun i => i == 0, fun i => i == 0, []⟩
abbrev S__law_some : Sx := ⟨fun i => i == 0, fun i => i == 0, []⟩
abbrev S__law_sort : Sx := ⟨fun i => false, fun i => false, []⟩
abbrev S__law_like : Sx := ⟨fun i => false, fun i => false, []⟩
abbrev S__law_grown : Sx := ⟨fun i => i == 0 || i == 2, fun i => i == 0, []⟩
abbrev S__law_stays : Sx := ⟨fun i => false, fun i => false, []⟩
abbrev S__law_placed : Sx := ⟨fun i => false, fun i => false, []⟩
abbrev S__law_turned : Sx := ⟨fun i => false, fun i => false, []⟩
abbrev S__law_mirrored : Sx := ⟨fun i => false, fun i => false, []⟩
abbrev S__law_stairs : Sx := ⟨fun i => false, fun i => false, []⟩
abbrev S__law_error : Sx := ⟨fun i => false, fun i => false, []⟩
abbrev S__law_forms : Sx := ⟨fun i => i == 1, fun i => false, []⟩
abbrev S__law_right : Sx := ⟨fun i => i == 0, fun i => i == 0, []⟩
abbrev S_law : Sx := ⟨fun i => i == 1 || i == 18, fun i => false, T0⟩
def m_is_whole : DS := sRet (vAn (vUn (gIsa "int") (eVar 0)) (vAn (vNo (vUn (gIsa "bool") (eVar 0))) (vChain gLe gLe (eVar 1) (eVar 0) (eVar 2))))
def f_is_whole : FnS := ⟨3, none, false, bodyM 3 none false m_is_whole⟩
def m_is_tuple_of : DS := sRet (vAn (vUn (gIsa "tuple") (eVar 0)) (vChain gLe gLe (eVar 1) (vCall gLen (aCons (eVar 0) (aNil))) (eVar 2)))
def f_is_tuple_of : FnS := ⟨3, none, false, bodyM 3 none false m_is_tuple_of⟩
def m_is_ascending : DS := sRet (vCall gAll (aCons (vOf (oComp (iZip (aCons (eVar 0) (aCons (vSl (eVar 0) (pSome (eC (.int 1))) (pNone)) (aNil)))) [1, 2] (bTup 2 (bCons (bName 1) (bCons (bName 2) (bNil)))) (tYesD) (vBin gLt (eVar 1) (eVar 2)))) (aNil)))
def f_is_ascending : FnS := ⟨1, none, false, bodyM 3 none false m_is_ascending⟩
def m_is_cell : DS := sRet (vAn (eCall f_is_tuple_of (chkN f_is_tuple_of.np (aCons (eVar 0) (aCons (eC (.int 2)) (aCons (eC (.int 2)) (aNil)))))) (vCall gAll (aCons (vOf (oComp (iSeq (eVar 0)) [1] (bName 1) (tYesD) (eCall f_is_whole (chkN f_is_whole.np (aCons (eVar 1) (aCons (vUn gNeg (eC (.int (1000)))) (aCons (eC (.int (1000))) (aNil)))))))) (aNil))))
def f_is_cell : FnS := ⟨1, none, false, bodyM 2 none false m_is_cell⟩
def m_are_cells : DS := sRet (vAn (eCall f_is_tuple_of (chkN f_is_tuple_of.np (aCons (eVar 0) (aCons (eC (.int 0)) (aCons (eC (.int (60))) (aNil)))))) (vAn (vCall gAll (aCons (vOf (oComp (iSeq (eVar 0)) [1] (bName 1) (tYesD) (eCall f_is_cell (chkN f_is_cell.np (aCons (eVar 1) (aNil)))))) (aNil))) (eCall f_is_ascending (chkN f_is_ascending.np (aCons (eVar 0) (aNil))))))
def f_are_cells : FnS := ⟨1, none, false, bodyM 2 none false m_are_cells⟩
def m_neighbours_of : DS := sSeq (sUnp (bTup 2 (bCons (bName 1) (bCons (bName 2) (bNil)))) (eVar 0)) (sRet (vOf (oLst (aCons (eTup (aCons (eVar 1) (aCons (vBin gSub (eVar 2) (eC (.int 1))) (aNil)))) (aCons (eTup (aCons (vBin gAdd (eVar 1) (eC (.int 1))) (aCons (eVar 2) (aNil)))) (aCons (eTup (aCons (eVar 1) (aCons (vBin gAdd (eVar 2) (eC (.int 1))) (aNil)))) (aCons (eTup (aCons (vBin gSub (eVar 1) (eC (.int 1))) (aCons (eVar 2) (aNil)))) (aNil))))))))
def f_neighbours_of : FnS := ⟨1, none, false, bodyM 3 none false m_neighbours_of⟩
def m_corners_of : DS := sSeq (sUnp (bTup 2 (bCons (bName 1) (bCons (bName 2) (bNil)))) (eVar 0)) (sRet (vOf (oLst (aCons (eTup (aCons (eVar 1) (aCons (eVar 2) (aNil)))) (aCons (eTup (aCons (vBin gAdd (eVar 1) (eC (.int 1))) (aCons (eVar 2) (aNil)))) (aCons (eTup (aCons (vBin gAdd (eVar 1) (eC (.int 1))) (aCons (vBin gAdd (eVar 2) (eC (.int 1))) (aNil)))) (aCons (eTup (aCons (eVar 1) (aCons (vBin gAdd (eVar 2) (eC (.int 1))) (aNil)))) (aNil))))))))
def f_corners_of : FnS := ⟨1, none, false, bodyM 3 none false m_corners_of⟩
def m_do_hang : DS := sSeq (sIf (tOf (vBin gEq (eVar 0) (eTup (aNil)))) (sRet (eC (.bool true))) (sNext)) (sSeq (sSetO 1 (oCall gDict (aCons (vOf (oComp (iSeq (eVar 0)) [5] (bName 5) (tYesD) (eTup (aCons (eVar 5) (aCons (eC (.bool true)) (aNil)))))) (aNil)))) (sSeq (sSetO 2 (oLst (aCons (vBin gIx (eVar 0) (eC (.int 0))) (aNil)))) (sSeq (sPopK 1 (vBin gIx (eVar 0) (eC (.int 0)))) (sSeq (sFor (iRng1 (aCons (vCall gLen (aCons (eVar 0) (aNil))) (aNil))) (bName 3) (sIf (tOf (vBin gLt (eVar 3) (vCall gLen (aCons (eOwn 2) (aNil))))) (sFor (iSeq (eCall f_neighbours_of (chkN f_neighbours_of.np (aCons (vBin gIx (eOwn 2) (eVar 3)) (aNil))))) (bName 4) (sIf (tOf (vBin gIn (eVar 4) (eOwn 1))) (sSeq (sPopK 1 (eVar 4)) (sApp 2 (eVar 4))) (sNext))) (sNext))) (sRet (vBin gEqE (eOwn 1) (vOf (oNewD))))))))
def f_do_hang : FnS := ⟨1, none, false, bodyM 6 none false m_do_hang⟩
def m_counts_in : DS := sSeq (sPar [1, 2] [.o (oNewD), .o (oNewD)]) (sSeq (sFor (iSeq (eVar 0)) (bName 3) (sSeq (sSet 4 (eCall f_corners_of (chkN f_corners_of.np (aCons (eVar 3) (aNil))))) (sFor (iZip (aCons (eVar 4) (aCons (vBin gAdd (vSl (eVar 4) (pSome (eC (.int 1))) (pNone)) (vSl (eVar 4) (pNone) (pSome (eC (.int 1))))) (aNil)))) (bTup 2 (bCons (bName 5) (bCons (bName 6) (bNil)))) (sSeq (sSetIx 1 (eVar 5) (eC (.bool true))) (sSetIx 2 (eTup (aCons (vCall gMin2 (aCons (eVar 5) (aCons (eVar 6) (aNil)))) (aCons (vCall gMax2 (aCons (eVar 5) (aCons (eVar 6) (aNil)))) (aNil)))) (eC (.bool true))))))) (sRet (eTup (aCons (vCall gLen (aCons (eOwn 1) (aNil))) (aCons (vCall gLen (aCons (eOwn 2) (aNil))) (aCons (vCall gLen (aCons (eVar 0) (aNil))) (aNil)))))))
def f_counts_in : FnS := ⟨1, none, false, bodyM 7 none false m_counts_in⟩
def m_is_piece : DS := sSeq (sIf (tOrr (tNo (tTru (eCall f_are_cells (chkN f_are_cells.np (aCons (eVar 0) (aNil)))))) (tOrr (tOf (vBin gEq (eVar 0) (eTup (aNil)))) (tNo (tTru (eCall f_do_hang (chkN f_do_hang.np (aCons (eVar 0) (aNil)))))))) (sRet (eC (.bool false))) (sNext)) (sSeq (sUnp (bTup 3 (bCons (bName 1) (bCons (bName 2) (bCons (bName 3) (bNil))))) (eCall f_counts_in (chkN f_counts_in.np (aCons (eVar 0) (aNil))))) (sRet (vBin gEq (vBin gAdd (vBin gSub (eVar 1) (eVar 2)) (eVar 3)) (eC (.int 1)))))
def f_is_piece : FnS := ⟨1, none, false, bodyM 4 none false m_is_piece⟩
def m_need_piece : DS := sIf (tNo (tTru (eCall f_is_piece (chkN f_is_piece.np (aCons (eVar 0) (aNil)))))) (sRaise "InvalidPiece") (sNext)
def f_need_piece : FnS := ⟨1, none, false, bodyM 1 none false m_need_piece⟩
def m_placed_in : DS := sSeq (sPar [1, 2] [.v (vCall gMin (aCons (vOf (oComp (iSeq (eVar 0)) [3, 4] (bTup 2 (bCons (bName 3) (bCons (bName 4) (bNil)))) (tYesD) (eVar 3))) (aNil))), .v (vCall gMin (aCons (vOf (oComp (iSeq (eVar 0)) [3, 4] (bTup 2 (bCons (bName 3) (bCons (bName 4) (bNil)))) (tYesD) (eVar 4))) (aNil)))]) (sRet (vCall gTuple (aCons (vOf (oCall gSorted (aCons (vOf (oComp (iSeq (eVar 0)) [3, 4] (bTup 2 (bCons (bName 3) (bCons (bName 4) (bNil)))) (tYesD) (eTup (aCons (vBin gSub (eVar 3) (eVar 1)) (aCons (vBin gSub (eVar 4) (eVar 2)) (aNil)))))) (aNil)))) (aNil))))
def f_placed_in : FnS := ⟨1, none, false, bodyM 5 none false m_placed_in⟩
def m_turned_in : DS := sRet (eCall f_placed_in (chkN f_placed_in.np (aCons (vOf (oComp (iSeq (eVar 0)) [1, 2] (bTup 2 (bCons (bName 1) (bCons (bName 2) (bNil)))) (tYesD) (eTup (aCons (vUn gNeg (eVar 2)) (aCons (eVar 1) (aNil)))))) (aNil))))
def f_turned_in : FnS := ⟨1, none, false, bodyM 3 none false m_turned_in⟩
def m_mirrored_in : DS := sRet (eCall f_placed_in (chkN f_placed_in.np (aCons (vOf (oComp (iSeq (eVar 0)) [1, 2] (bTup 2 (bCons (bName 1) (bCons (bName 2) (bNil)))) (tYesD) (eTup (aCons (vUn gNeg (eVar 1)) (aCons (eVar 2) (aNil)))))) (aNil))))
def f_mirrored_in : FnS := ⟨1, none, false, bodyM 3 none false m_mirrored_in⟩
def m_forms_of : DS := sSeq (sSetO 1 (oLst (aNil))) (sSeq (sFor (iSeq (eTup (aCons (eC (.bool false)) (aCons (eC (.bool true)) (aNil))))) (bName 2) (sSeq (sSet 3 (vIf (tTru (eVar 2)) (eCall f_mirrored_in (chkN f_mirrored_in.np (aCons (eVar 0) (aNil)))) (eCall f_placed_in (chkN f_placed_in.np (aCons (eVar 0) (aNil)))))) (sFor (iRng1 (aCons (eC (.int 4)) (aNil))) (bName 4) (sSeq (sApp 1 (eTup (aCons (eVar 4) (aCons (eVar 2) (aCons (eVar 3) (aNil)))))) (sSet 3 (eCall f_turned_in (chkN f_turned_in.np (aCons (eVar 3) (aNil))))))))) (sRet (eOwn 1)))
def f_forms_of : FnS := ⟨1, none, false, bodyM 5 none false m_forms_of⟩
def m_placed : DS := sSeq (sDrop (eCall f_need_piece (chkN f_need_piece.np (aCons (eVar 0) (aNil))))) (sRet (eCall f_placed_in (chkN f_placed_in.np (aCons (eVar 0) (aNil)))))
def f_placed : FnS := ⟨1, none, false, bodyM 1 none false m_placed⟩
def m_turned : DS := sSeq (sDrop (eCall f_need_piece (chkN f_need_piece.np (aCons (eVar 0) (aNil))))) (sRet (eCall f_turned_in (chkN f_turned_in.np (aCons (eVar 0) (aNil)))))
def f_turned : FnS := ⟨1, none, false, bodyM 1 none false m_turned⟩
def m_mirrored : DS := sSeq (sDrop (eCall f_need_piece (chkN f_need_piece.np (aCons (eVar 0) (aNil))))) (sRet (eCall f_mirrored_in (chkN f_mirrored_in.np (aCons (eVar 0) (aNil)))))
def f_mirrored : FnS := ⟨1, none, false, bodyM 1 none false m_mirrored⟩
def m_least_in : DS := sRet (vCall gMin (aCons (vOf (oComp (iSeq (eCall f_forms_of (chkN f_forms_of.np (aCons (eVar 0) (aNil))))) [1, 2, 3] (bTup 3 (bCons (bName 1) (bCons (bName 2) (bCons (bName 3) (bNil))))) (tYesD) (eVar 3))) (aNil)))
def f_least_in : FnS := ⟨1, none, false, bodyM 4 none false m_least_in⟩
def m_least_form : DS := sSeq (sDrop (eCall f_need_piece (chkN f_need_piece.np (aCons (eVar 0) (aNil))))) (sRet (eCall f_least_in (chkN f_least_in.np (aCons (eVar 0) (aNil)))))
def f_least_form : FnS := ⟨1, none, false, bodyM 1 none false m_least_form⟩
def m_are_alike : DS := sSeq (sDrop (eCall f_need_piece (chkN f_need_piece.np (aCons (eVar 0) (aNil))))) (sSeq (sDrop (eCall f_need_piece (chkN f_need_piece.np (aCons (eVar 1) (aNil))))) (sRet (vBin gEq (eCall f_least_in (chkN f_least_in.np (aCons (eVar 0) (aNil)))) (eCall f_least_in (chkN f_least_in.np (aCons (eVar 1) (aNil)))))))
def f_are_alike : FnS := ⟨2, none, false, bodyM 2 none false m_are_alike⟩
def m_symmetries : DS := sSeq (sDrop (eCall f_need_piece (chkN f_need_piece.np (aCons (eVar 0) (aNil))))) (sSeq (sSet 1 (eCall f_placed_in (chkN f_placed_in.np (aCons (eVar 0) (aNil))))) (sRet (vCall gTuple (aCons (vOf (oCall gSorted (aCons (vOf (oComp (iSeq (eCall f_forms_of (chkN f_forms_of.np (aCons (eVar 0) (aNil))))) [2, 3, 4] (bTup 3 (bCons (bName 2) (bCons (bName 3) (bCons (bName 4) (bNil))))) (tOf (vBin gEq (eVar 4) (eVar 1))) (eTup (aCons (eVar 2) (aCons (eVar 3) (aNil)))))) (aNil)))) (aNil)))))
def f_symmetries : FnS := ⟨1, none, false, bodyM 5 none false m_symmetries⟩
def m__law_cup : DS := sSeq (sSet 1 (vCall gAbs (aCons (vBin gIx (vBin gAdd (vOf (oCall gList (aCons (eVar 0) (aNil)))) (vOf (oLst (aCons (eC (.int 0)) (aNil))))) (eC (.int 0))) (aNil)))) (sRetO (oLst (aCons (vIf (tOf (vBin gGe (eVar 1) (vBin gPow (eC (.int 10)) (eC (.int 18))))) (vBin gFdiv (eVar 1) (eC (.int 97))) (eC (.int 0))) (aCons (vBin gAdd (vBin gMod (vCall gInt (aCons (vBin gAdd (vBin gMul (eVar 1) (eC (.int 337))) (eC (.int 4801))) (aNil))) (eC (.int 2034129307))) (eC (.int 193))) (aNil)))))
def f__law_cup : FnS := ⟨1, none, true, bodyM 2 none true m__law_cup⟩
def m__law_roll : DS := sSeq (sIf (tOf (vBin gGt (vBin gIx (eOwn 0) (eC (.int 0))) (eC (.int 0)))) (sSeq (sSet 3 (vBin gMod (vCall gInt (aCons (vBin gIx (eOwn 0) (eC (.int 0))) (aNil))) (eVar 1))) (sSeq (sSetIx 0 (eC (.int 0)) (vBin gFdiv (vBin gIx (eOwn 0) (eC (.int 0))) (eVar 1))) (sRet (eVar 3)))) (sNext)) (sSeq (sSetIx 0 (eC (.int 1)) (vBin gMod (vCall gInt (aCons (vBin gAdd (vBin gMul (vBin gIx (eOwn 0) (eC (.int 1))) (eC (.int 30493))) (eC (.int 8513))) (aNil))) (eC (.int 2147483543)))) (sSeq (sSet 2 (vBin gMod (vCall gInt (aCons (vBin gMul (vBin gIx (eOwn 0) (eC (.int 1))) (vBin gAdd (vBin gIx (eOwn 0) (eC (.int 1))) (eC (.int 269)))) (aNil))) (eC (.int 2147483587)))) (sRet (vBin gMod (vCall gInt (aCons (vBin gFdiv (eVar 2) (eC (.int 857))) (aNil))) (eVar 1)))))
def f__law_roll : FnS := ⟨2, (some 0), false, bodyM 4 (some 0) false m__law_roll⟩
def m__law_some : DS := sRet (vBin gIx (eVar 1) (eCall f__law_roll (chkN f__law_roll.np (aCons (eOwn 0) (aCons (vCall gLen (aCons (eVar 1) (aNil))) (aNil))))))
def f__law_some : FnS := ⟨2, (some 0), false, bodyM 2 (some 0) false m__law_some⟩
def m__law_sort : DS := sSeq (sIf (tOrr (tOf (vBin gIs (eVar 0) (eC .none))) (tTru (vUn (gIsa "bool") (eVar 0)))) (sRet (vIf (tOf (vBin gIs (eVar 0) (eC .none))) (eC (.int 0)) (eC (.int 1)))) (sNext)) (sSeq (sIf (tOrr (tTru (vUn (gIsa "int") (eVar 0))) (tTru (vUn (gIsa "str") (eVar 0)))) (sRet (vIf (tTru (vUn (gIsa "int") (eVar 0))) (eC (.int 2)) (eC (.int 3)))) (sNext)) (sRet (vIf (tTru (vUn (gIsa "tuple") (eVar 0))) (eC (.int 4)) (vIf (tTru (vUn (gIsa "list") (eVar 0))) (eC (.int 5)) (eC (.int 6))))))
def f__law_sort : FnS := ⟨1, none, false, bodyM 1 none false m__law_sort⟩
def m__law_like (rc : FnS) : DS := sSeq (sSet 2 (eCall f__law_sort (chkN f__law_sort.np (aCons (eVar 1) (aNil))))) (sSeq (sIf (tOrr (tOf (vBin gNe (eCall f__law_sort (chkN f__law_sort.np (aCons (eVar 0) (aNil)))) (eVar 2))) (tOf (vBin gEq (eVar 2) (eC (.int 6))))) (sRet (eC (.bool false))) (sNext)) (sSeq (sIf (tOf (vBin gIn (eVar 2) (eTup (aCons (eC (.int 4)) (aCons (eC (.int 5)) (aNil)))))) (sRet (vAn (vBin gEq (vCall gLen (aCons (eVar 0) (aNil))) (vCall gLen (aCons (eVar 1) (aNil)))) (vBin gEq (vOf (oComp (iZip (aCons (eVar 0) (aCons (eVar 1) (aNil)))) [3, 4] (bTup 2 (bCons (bName 3) (bCons (bName 4) (bNil)))) (tNo (tTru (eCall rc (chkN rc.np (aCons (eVar 3) (aCons (eVar 4) (aNil))))))) (eC (.int 1)))) (vOf (oLst (aNil)))))) (sNext)) (sRet (vBin gEq (eVar 0) (eVar 1)))))
def f__law_like : Nat → FnS
  | 0 => ⟨2, none, false, fun _ => .stuck⟩
  | n + 1 => ⟨2, none, false, bodyM 5 none false (m__law_like (f__law_like n))⟩
def m__law_stays : DS := sSeq (sUnp (bTup 2 (bCons (bName 2) (bCons (bName 3) (bNil)))) (eVar 1)) (sSeq (sSet 4 (vOf (oLst (aCons (eTup (aCons (vBin gAdd (eVar 2) (eC (.int 1))) (aCons (eVar 3) (aNil)))) (aCons (eTup (aCons (vBin gAdd (eVar 2) (eC (.int 1))) (aCons (vBin gAdd (eVar 3) (eC (.int 1))) (aNil)))) (aCons (eTup (aCons (eVar 2) (aCons (vBin gAdd (eVar 3) (eC (.int 1))) (aNil)))) (aCons (eTup (aCons (vBin gSub (eVar 2) (eC (.int 1))) (aCons (vBin gAdd (eVar 3) (eC (.int 1))) (aNil)))) (aCons (eTup (aCons (vBin gSub (eVar 2) (eC (.int 1))) (aCons (eVar 3) (aNil)))) (aCons (eTup (aCons (vBin gSub (eVar 2) (eC (.int 1))) (aCons (vBin gSub (eVar 3) (eC (.int 1))) (aNil)))) (aCons (eTup (aCons (eVar 2) (aCons (vBin gSub (eVar 3) (eC (.int 1))) (aNil)))) (aCons (eTup (aCons (vBin gAdd (eVar 2) (eC (.int 1))) (aCons (vBin gSub (eVar 3) (eC (.int 1))) (aNil)))) (aNil)))))))))))) (sSeq (sSet 5 (vOf (oComp (iSeq (eVar 4)) [8] (bName 8) (tYesD) (vBin gIn (eVar 8) (eVar 0))))) (sSeq (sSet 6 (vCall gLen (aCons (vOf (oComp (iZip (aCons (eVar 5) (aCons (vBin gAdd (vSl (eVar 5) (pSome (eC (.int 1))) (pNone)) (vSl (eVar 5) (pNone) (pSome (eC (.int 1))))) (aNil)))) [8, 10] (bTup 2 (bCons (bName 8) (bCons (bName 10) (bNil)))) (tOf (vBin gNe (eVar 8) (eVar 10))) (eC (.int 1)))) (aNil)))) (sSeq (sSet 7 (vOf (oComp (iSeq (eTup (aCons (eC (.int 1)) (aCons (eC (.int 3)) (aCons (eC (.int 5)) (aCons (eC (.int 7)) (aNil))))))) [9] (bName 9) (tAn (tTru (vBin gIx (eVar 5) (eVar 9))) (tAn (tNo (tTru (vBin gIx (eVar 5) (vBin gSub (eVar 9) (eC (.int 1)))))) (tNo (tTru (vBin gIx (eVar 5) (vBin gMod (vCall gInt (aCons (vBin gAdd (eVar 9) (eC (.int 1))) (aNil))) (eC (.int 8)))))))) (eVar 9)))) (sRet (vAn (vBin gIn (eVar 6) (eTup (aCons (eC (.int 0)) (aCons (eC (.int 2)) (aNil))))) (vBin gEq (eVar 7) (vOf (oLst (aNil))))))))))
def f__law_stays : FnS := ⟨2, none, false, bodyM 11 none false m__law_stays⟩
def m__law_grown : DS := sSeq (sSetO 2 (oLst (aCons (eTup (aCons (eCall f__law_some (chkN f__law_some.np (aCons (eOwn 0) (aCons (vOf (oLst (aCons (eC (.int 0)) (aCons (eC (.int 0)) (aCons (eC (.int 5)) (aCons (vUn gNeg (eC (.int 3))) (aCons (vUn gNeg (eC (.int 7))) (aNil)))))))) (aNil))))) (aCons (eCall f__law_some (chkN f__law_some.np (aCons (eOwn 0) (aCons (vOf (oLst (aCons (eC (.int 0)) (aCons (eC (.int 0)) (aCons (eC (.int 4)) (aCons (vUn gNeg (eC (.int 9))) (aNil))))))) (aNil))))) (aNil)))) (aNil)))) (sSeq (sFor (iRng1 (aCons (vBin gSub (eVar 1) (eC (.int 1))) (aNil))) (bName 3) (sSeq (sUnp (bTup 2 (bCons (bName 4) (bCons (bName 5) (bNil)))) (eCall f__law_some (chkN f__law_some.np (aCons (eOwn 0) (aCons (eOwn 2) (aNil)))))) (sSeq (sSet 6 (eCall f__law_some (chkN f__law_some.np (aCons (eOwn 0) (aCons (vOf (oLst (aCons (eTup (aCons (vBin gAdd (eVar 4) (eC (.int 1))) (aCons (eVar 5) (aNil)))) (aCons (eTup (aCons (vBin gSub (eVar 4) (eC (.int 1))) (aCons (eVar 5) (aNil)))) (aCons (eTup (aCons (eVar 4) (aCons (vBin gAdd (eVar 5) (eC (.int 1))) (aNil)))) (aCons (eTup (aCons (eVar 4) (aCons (vBin gSub (eVar 5) (eC (.int 1))) (aNil)))) (aNil))))))) (aNil)))))) (sIf (tAn (tOf (vBin gNotIn (eVar 6) (eOwn 2))) (tTru (eCall f__law_stays (chkN f__law_stays.np (aCons (eOwn 2) (aCons (eVar 6) (aNil))))))) (sApp 2 (eVar 6)) (sNext))))) (sRet (vCall gTuple (aCons (vOf (oCall gSorted (aCons (eOwn 2) (aNil)))) (aNil)))))
def f__law_grown : FnS := ⟨2, (some 0), false, bodyM 7 (some 0) false m__law_grown⟩
def m__law_placed : DS := sSeq (sPar [1, 2] [.v (vCall gMin (aCons (vOf (oComp (iSeq (eVar 0)) [3, 4] (bTup 2 (bCons (bName 3) (bCons (bName 4) (bNil)))) (tYesD) (eVar 3))) (aNil))), .v (vCall gMin (aCons (vOf (oComp (iSeq (eVar 0)) [3, 4] (bTup 2 (bCons (bName 3) (bCons (bName 4) (bNil)))) (tYesD) (eVar 4))) (aNil)))]) (sRet (vCall gTuple (aCons (vOf (oCall gSorted (aCons (vOf (oComp (iSeq (eVar 0)) [3, 4] (bTup 2 (bCons (bName 3) (bCons (bName 4) (bNil)))) (tYesD) (eTup (aCons (vBin gSub (eVar 3) (eVar 1)) (aCons (vBin gSub (eVar 4) (eVar 2)) (aNil)))))) (aNil)))) (aNil))))
def f__law_placed : FnS := ⟨1, none, false, bodyM 5 none false m__law_placed⟩
def m__law_turned : DS := sRet (eCall f__law_placed (chkN f__law_placed.np (aCons (vOf (oComp (iSeq (eVar 0)) [1, 2] (bTup 2 (bCons (bName 1) (bCons (bName 2) (bNil)))) (tYesD) (eTup (aCons (vUn gNeg (eVar 2)) (aCons (eVar 1) (aNil)))))) (aNil))))
def f__law_turned : FnS := ⟨1, none, false, bodyM 3 none false m__law_turned⟩
def m__law_mirrored : DS := sRet (eCall f__law_placed (chkN f__law_placed.np (aCons (vOf (oComp (iSeq (eVar 0)) [1, 2] (bTup 2 (bCons (bName 1) (bCons (bName 2) (bNil)))) (tYesD) (eTup (aCons (vUn gNeg (eVar 1)) (aCons (eVar 2) (aNil)))))) (aNil))))
def f__law_mirrored : FnS := ⟨1, none, false, bodyM 3 none false m__law_mirrored⟩
def m__law_stairs : DS := sRet (vCall gTuple (aCons (vOf (oCall gSorted (aCons (vOf (oComp (iRng1 (aCons (eVar 0) (aNil))) [1] (bName 1) (tYesD) (eTup (aCons (vBin gFdiv (vCall gInt (aCons (vBin gAdd (eVar 1) (eC (.int 1))) (aNil))) (eC (.int 2))) (aCons (vBin gFdiv (vCall gInt (aCons (eVar 1) (aNil))) (eC (.int 2))) (aNil)))))) (aNil)))) (aNil)))
def f__law_stairs : FnS := ⟨1, none, false, bodyM 2 none false m__law_stairs⟩
def ms__law_error (ad : Addr) (cl : Str) : DS := sSeq (sSet 2 (vOf (oLst (aCons (eTup (aCons (eC (.str "piece")) (aCons (vCall (gIsE ad (isb cl)) (aCons (eVar 1) (aCons (eC (fnD "InvalidPiece")) aNil))) (aNil)))) (aNil))))) (sRet (vBin gAdd (eJoin (eC (.str " ")) (vOf (oComp (iLst (eVar 2)) [3, 4] (bTup 2 (bCons (bName 3) (bCons (bName 4) (bNil)))) (tTru (eVar 4)) (eVar 3)))) (eC (.str " error"))))
def m__law_forms : DS := sSeq (sSetO 1 (oLst (aNil))) (sSeq (sFor (iSeq (eTup (aCons (eC (.bool false)) (aCons (eC (.bool true)) (aNil))))) (bName 2) (sSeq (sSet 3 (vIf (tTru (eVar 2)) (eCall f__law_mirrored (chkN f__law_mirrored.np (aCons (eVar 0) (aNil)))) (eCall f__law_placed (chkN f__law_placed.np (aCons (eVar 0) (aNil)))))) (sFor (iRng1 (aCons (eC (.int 4)) (aNil))) (bName 4) (sSeq (sApp 1 (eTup (aCons (eVar 4) (aCons (eVar 2) (aCons (eVar 3) (aNil)))))) (sSet 3 (eCall f__law_turned (chkN f__law_turned.np (aCons (eVar 3) (aNil))))))))) (sRet (eOwn 1)))
def f__law_forms : FnS := ⟨1, none, false, bodyM 5 none false m__law_forms⟩
def m__law_right : DS := sSeq (sPar [2, 3] [.v (eCall f__law_forms (chkN f__law_forms.np (aCons (eVar 1) (aNil)))), .v (eCall f__law_placed (chkN f__law_placed.np (aCons (eVar 1) (aNil))))]) (sSeq (sSet 4 (vCall gTuple (aCons (vOf (oCall gSorted (aCons (vOf (oComp (iSeq (eVar 2)) [6, 7, 8] (bTup 3 (bCons (bName 6) (bCons (bName 7) (bCons (bName 8) (bNil))))) (tOf (vBin gEq (eVar 8) (eVar 3))) (eTup (aCons (eVar 6) (aCons (eVar 7) (aNil)))))) (aNil)))) (aNil)))) (sSeq (sSet 5 (vOf (oLst (aCons (eCall f_placed (chkN f_placed.np (aCons (eVar 1) (aNil)))) (aCons (eCall f_turned (chkN f_turned.np (aCons (eVar 1) (aNil)))) (aCons (eCall f_mirrored (chkN f_mirrored.np (aCons (eVar 1) (aNil)))) (aCons (eCall f_least_form (chkN f_least_form.np (aCons (eVar 1) (aNil)))) (aCons (eCall f_symmetries (chkN f_symmetries.np (aCons (eVar 1) (aNil)))) (aNil))))))))) (sSeq (sIf (tNo (tTru (eCall (f__law_like 8) (chkN (f__law_like 8).np (aCons (eVar 5) (aCons (vOf (oLst (aCons (eVar 3) (aCons (vBin gIx (vBin gIx (eVar 2) (eC (.int 1))) (eC (.int 2))) (aCons (vBin gIx (vBin gIx (eVar 2) (eC (.int 4))) (eC (.int 2))) (aCons (vCall gMin (aCons (vOf (oComp (iSeq (eVar 2)) [6, 7, 8] (bTup 3 (bCons (bName 6) (bCons (bName 7) (bCons (bName 8) (bNil))))) (tYesD) (eVar 8))) (aNil))) (aCons (eVar 4) (aNil)))))))) (aNil))))))) (sRet (eC (.bool false))) (sNext)) (sSeq (sIf (tOf (vBin gNotIn (vCall gLen (aCons (eVar 4) (aNil))) (eTup (aCons (eC (.int 1)) (aCons (eC (.int 2)) (aCons (eC (.int 4)) (aCons (eC (.int 8)) (aNil)))))))) (sRet (eC (.bool false))) (sNext)) (sSeq (sUnp (bTup 3 (bCons (bName 6) (bCons (bName 7) (bCons (bName 8) (bNil))))) (eCall f__law_some (chkN f__law_some.np (aCons (eOwn 0) (aCons (eVar 2) (aNil)))))) (sSeq (sPar [9, 10] [.v (vBin gSub (eCall f__law_roll (chkN f__law_roll.np (aCons (eOwn 0) (aCons (eC (.int 300)) (aNil))))) (eC (.int 150))), .v (vBin gSub (eCall f__law_roll (chkN f__law_roll.np (aCons (eOwn 0) (aCons (eC (.int 300)) (aNil))))) (eC (.int 150)))]) (sSeq (sSet 11 (vCall gTuple (aCons (vOf (oCall gSorted (aCons (vOf (oComp (iSeq (eVar 8)) [12, 13] (bTup 2 (bCons (bName 12) (bCons (bName 13) (bNil)))) (tYesD) (eTup (aCons (vBin gAdd (eVar 12) (eVar 9)) (aCons (vBin gAdd (eVar 13) (eVar 10)) (aNil)))))) (aNil)))) (aNil)))) (sRet (eCall (f__law_like 8) (chkN (f__law_like 8).np (aCons (vOf (oLst (aCons (eCall f_are_alike (chkN f_are_alike.np (aCons (eVar 1) (aCons (eVar 11) (aNil))))) (aCons (eCall f_are_alike (chkN f_are_alike.np (aCons (eVar 11) (aCons (eVar 1) (aNil))))) (aCons (eCall f_least_form (chkN f_least_form.np (aCons (eVar 11) (aNil)))) (aCons (vCall gLen (aCons (eCall f_symmetries (chkN f_symmetries.np (aCons (eVar 11) (aNil)))) (aNil))) (aNil))))))) (aCons (vOf (oLst (aCons (eC (.bool true)) (aCons (eC (.bool true)) (aCons (eCall f_least_form (chkN f_least_form.np (aCons (eVar 1) (aNil)))) (aCons (vCall gLen (aCons (eVar 4) (aNil))) (aNil))))))) (aNil)))))))))))))
def f__law_right : FnS := ⟨2, (some 0), false, bodyM 14 (some 0) false m__law_right⟩
def tbl_law (y : Str) : Option FnS := if y = "placed" then some f_placed else if y = "turned" then some f_turned else if y = "mirrored" then some f_mirrored else if y = "least_form" then some f_least_form else if y = "symmetries" then some f_symmetries else none
def m_law : DS := sSeq (sSetO 1 (oCallF f__law_cup (chkN f__law_cup.np (aCons (eVar 0) (aNil))))) (sSeq (sFor (iRng1 (aCons (eC (.int 4)) (aNil))) (bName 2) (sSeq (sPar [20, 21] [.v (eCall f__law_grown (chkN f__law_grown.np (aCons (eOwn 1) (aCons (eCall f__law_some (chkN f__law_some.np (aCons (eOwn 1) (aCons (vOf (oLst (aCons (eC (.int 1)) (aCons (eC (.int 3)) (aCons (eC (.int 5)) (aCons (eC (.int 9)) (aNil))))))) (aNil))))) (aNil))))), .v (eCall f__law_grown (chkN f__law_grown.np (aCons (eOwn 1) (aCons (eCall f__law_some (chkN f__law_some.np (aCons (eOwn 1) (aCons (vOf (oLst (aCons (eC (.int 1)) (aCons (eC (.int 3)) (aCons (eC (.int 5)) (aCons (eC (.int 9)) (aNil))))))) (aNil))))) (aNil)))))]) (sSeq (sSet 6 (vBin gIn (eCall f__law_placed (chkN f__law_placed.np (aCons (eVar 21) (aNil)))) (vOf (oComp (iSeq (eCall f__law_forms (chkN f__law_forms.np (aCons (eVar 20) (aNil))))) [22, 23, 24] (bTup 3 (bCons (bName 22) (bCons (bName 23) (bCons (bName 24) (bNil))))) (tYesD) (eVar 24))))) (sIf (tOrr (tNo (tTru (eCall f__law_right (chkN f__law_right.np (aCons (eOwn 1) (aCons (eVar 20) (aNil))))))) (tNo (tTru (eCall (f__law_like 8) (chkN (f__law_like 8).np (aCons (vOf (oLst (aCons (eCall f_are_alike (chkN f_are_alike.np (aCons (eVar 20) (aCons (eVar 21) (aNil))))) (aCons (eCall f_are_alike (chkN f_are_alike.np (aCons (eVar 21) (aCons (eVar 20) (aNil))))) (aNil))))) (aCons (vOf (oLst (aCons (eVar 6) (aCons (eVar 6) (aNil))))) (aNil)))))))) (sRet (eC (.bool false))) (sNext))))) (sSeq (sUnp (bTup 2 (bCons (bName 3) (bCons (bName 4) (bNil)))) (eTup (aCons (eTup (aCons (eTup (aCons (eC (.int 0)) (aCons (eC (.int 0)) (aNil)))) (aCons (eTup (aCons (eC (.int 0)) (aCons (eC (.int 1)) (aNil)))) (aCons (eTup (aCons (eC (.int 1)) (aCons (eC (.int 0)) (aNil)))) (aNil))))) (aCons (eTup (aCons (eTup (aCons (eC (.int 0)) (aCons (eC (.int 0)) (aNil)))) (aCons (eTup (aCons (eC (.int 1)) (aCons (eC (.int 0)) (aNil)))) (aCons (eTup (aCons (eC (.int 1)) (aCons (eC (.int 1)) (aNil)))) (aCons (eTup (aCons (eC (.int 2)) (aCons (eC (.int 1)) (aNil)))) (aNil)))))) (aNil))))) (sSeq (sSet 5 (vOf (oLst (aCons (eCall f_placed (chkN f_placed.np (aCons (eTup (aCons (eTup (aCons (eC (.int 3)) (aCons (eC (.int 3)) (aNil)))) (aCons (eTup (aCons (eC (.int 3)) (aCons (eC (.int 4)) (aNil)))) (aNil)))) (aNil)))) (aCons (eCall f_turned (chkN f_turned.np (aCons (eVar 3) (aNil)))) (aCons (eCall f_mirrored (chkN f_mirrored.np (aCons (eVar 4) (aNil)))) (aCons (eCall f_least_form (chkN f_least_form.np (aCons (eVar 4) (aNil)))) (aCons (eCall f_are_alike (chkN f_are_alike.np (aCons (eVar 4) (aCons (eCall f_mirrored (chkN f_mirrored.np (aCons (eVar 4) (aNil)))) (aNil))))) (aCons (eCall f_symmetries (chkN f_symmetries.np (aCons (eVar 4) (aNil)))) (aCons (eCall f_symmetries (chkN f_symmetries.np (aCons (eVar 3) (aNil)))) (aNil))))))))))) (sSeq (sSet 6 (vOf (oLst (aCons (eTup (aCons (eTup (aCons (eC (.int 0)) (aCons (eC (.int 0)) (aNil)))) (aCons (eTup (aCons (eC (.int 0)) (aCons (eC (.int 1)) (aNil)))) (aNil)))) (aCons (eTup (aCons (eTup (aCons (eC (.int 0)) (aCons (eC (.int 0)) (aNil)))) (aCons (eTup (aCons (eC (.int 1)) (aCons (eC (.int 0)) (aNil)))) (aCons (eTup (aCons (eC (.int 1)) (aCons (eC (.int 1)) (aNil)))) (aNil))))) (aCons (eTup (aCons (eTup (aCons (eC (.int 0)) (aCons (eC (.int 1)) (aNil)))) (aCons (eTup (aCons (eC (.int 1)) (aCons (eC (.int 0)) (aNil)))) (aCons (eTup (aCons (eC (.int 1)) (aCons (eC (.int 1)) (aNil)))) (aCons (eTup (aCons (eC (.int 2)) (aCons (eC (.int 0)) (aNil)))) (aNil)))))) (aCons (eTup (aCons (eTup (aCons (eC (.int 0)) (aCons (eC (.int 0)) (aNil)))) (aCons (eTup (aCons (eC (.int 0)) (aCons (eC (.int 1)) (aNil)))) (aCons (eTup (aCons (eC (.int 1)) (aCons (eC (.int 1)) (aNil)))) (aCons (eTup (aCons (eC (.int 1)) (aCons (eC (.int 2)) (aNil)))) (aNil)))))) (aCons (eC (.bool true)) (aCons (eTup (aCons (eTup (aCons (eC (.int 0)) (aCons (eC (.bool false)) (aNil)))) (aCons (eTup (aCons (eC (.int 2)) (aCons (eC (.bool false)) (aNil)))) (aNil)))) (aCons (eTup (aCons (eTup (aCons (eC (.int 0)) (aCons (eC (.bool false)) (aNil)))) (aCons (eTup (aCons (eC (.int 3)) (aCons (eC (.bool true)) (aNil)))) (aNil)))) (aNil))))))))))) (sSeq (sIf (tNo (tTru (eCall (f__law_like 8) (chkN (f__law_like 8).np (aCons (eVar 5) (aCons (eVar 6) (aNil))))))) (sRet (eC (.bool false))) (sNext)) (sSeq (sSet 7 (vBin gSub (eCall f__law_roll (chkN f__law_roll.np (aCons (eOwn 1) (aCons (eC (.int 40)) (aNil))))) (eC (.int 20)))) (sSeq (sPar [8, 9] [.v (vCall gTuple (aCons (vOf (oCall gSorted (aCons (vOf (oComp (iRng1 (aCons (eC (.int 49)) (aNil))) [20] (bName 20) (tYesD) (eTup (aCons (vBin gAdd (eVar 7) (vBin gMod (vCall gInt (aCons (eVar 20) (aNil))) (eC (.int 7)))) (aCons (vBin gFdiv (vCall gInt (aCons (eVar 20) (aNil))) (eC (.int 7))) (aNil)))))) (aNil)))) (aNil))), .v (vCall gTuple (aCons (vOf (oComp (iRng1 (aCons (eC (.int 60)) (aNil))) [25] (bName 25) (tYesD) (eTup (aCons (eVar 25) (aCons (eVar 7) (aNil)))))) (aNil)))]) (sSeq (sSet 10 (vOf (oLst (aCons (eTup (aCons (eC (.int 0)) (aCons (eC (.int 0)) (aNil)))) (aNil))))) (sSeq (sFor (iRng2 (aCons (eC (.int 1)) (aCons (eC (.int 15)) (aNil)))) (bName 11) (sSet 10 (vBin gAdd (eVar 10) (vOf (oLst (aCons (eTup (aCons (eVar 11) (aCons (eC (.int 0)) (aNil)))) (aCons (eTup (aCons (vUn gNeg (eVar 11)) (aCons (eC (.int 0)) (aNil)))) (aCons (eTup (aCons (eC (.int 0)) (aCons (eVar 11) (aNil)))) (aCons (eTup (aCons (eC (.int 0)) (aCons (vUn gNeg (eVar 11)) (aNil)))) (aNil)))))))))) (sSeq (sSet 12 (vOf (oCall gSorted (aCons (vOf (oLst (aCons (eTup (aCons (eC (.int 0)) (aCons (eC (.int 0)) (aNil)))) (aCons (eTup (aCons (eC (.int 1)) (aCons (eC (.int 0)) (aNil)))) (aCons (eTup (aCons (eC (.int 1)) (aCons (eC (.int 1)) (aNil)))) (aCons (eTup (aCons (eC (.int 0)) (aCons (eC (.int 1)) (aNil)))) (aCons (eTup (aCons (eC (.int 2)) (aCons (eC (.int 0)) (aNil)))) (aCons (eTup (aCons (eC (.int 1)) (aCons (eC (.int 2)) (aNil)))) (aCons (eTup (aCons (vUn gNeg (eC (.int 1))) (aCons (eC (.int 1)) (aNil)))) (aCons (eTup (aCons (eC (.int 0)) (aCons (vUn gNeg (eC (.int 1))) (aNil)))) (aNil))))))))))) (aNil))))) (sSeq (sSet 13 (vCall gTuple (aCons (vBin gAdd (vOf (oComp (iRng1 (aCons (eC (.int 59)) (aNil))) [26] (bName 26) (tYesD) (eTup (aCons (eC (.int 0)) (aCons (eVar 26) (aNil)))))) (vOf (oLst (aCons (eTup (aCons (eC (.int 1)) (aCons (eC (.int 0)) (aNil)))) (aNil))))) (aNil)))) (sSeq (sSet 14 (vOf (oLst (aCons (eTup (aCons (eVar 8) (aCons (eC (.int 8)) (aNil)))) (aCons (eTup (aCons (eVar 9) (aCons (eC (.int 4)) (aNil)))) (aCons (eTup (aCons (vCall gTuple (aCons (vOf (oCall gSorted (aCons (eVar 10) (aNil)))) (aNil))) (aCons (eC (.int 8)) (aNil)))) (aCons (eTup (aCons (vCall gTuple (aCons (eVar 12) (aNil))) (aCons (eC (.int 4)) (aNil)))) (aCons (eTup (aCons (eCall f__law_stairs (chkN f__law_stairs.np (aCons (eC (.int 60)) (aNil)))) (aCons (eC (.int 2)) (aNil)))) (aCons (eTup (aCons (eVar 13) (aCons (eC (.int 1)) (aNil)))) (aCons (eTup (aCons (eTup (aCons (eTup (aCons (eVar 7) (aCons (eVar 7) (aNil)))) (aNil))) (aCons (eC (.int 8)) (aNil)))) (aNil))))))))))) (sSeq (sFor (iSeq (eVar 14)) (bTup 2 (bCons (bName 15) (bCons (bName 16) (bNil)))) (sIf (tOrr (tOf (vBin gNe (vCall gLen (aCons (eCall f_symmetries (chkN f_symmetries.np (aCons (eVar 15) (aNil)))) (aNil))) (eVar 16))) (tNo (tTru (eCall f__law_right (chkN f__law_right.np (aCons (eOwn 1) (aCons (eVar 15) (aNil)))))))) (sRet (eC (.bool false))) (sNext))) (sSeq (sSet 17 (vOf (oLst (aCons (eC .none) (aCons (eTup (aNil)) (aCons (vOf (oLst (aCons (eTup (aCons (eC (.int 0)) (aCons (eC (.int 0)) (aNil)))) (aNil)))) (aCons (eTup (aCons (eTup (aCons (eC (.int 0)) (aCons (eC (.int 0)) (aNil)))) (aCons (eTup (aCons (eC (.int 1)) (aCons (eC (.int 1)) (aNil)))) (aNil)))) (aCons (eTup (aCons (eTup (aCons (eC (.int 0)) (aCons (eC (.int 1)) (aNil)))) (aCons (eTup (aCons (eC (.int 0)) (aCons (eC (.int 0)) (aNil)))) (aNil)))) (aCons (eTup (aCons (eTup (aCons (eC (.int 0)) (aCons (eC (.int 0)) (aNil)))) (aCons (eTup (aCons (eC (.int 0)) (aCons (eC (.int 2)) (aNil)))) (aNil)))) (aCons (eTup (aCons (eTup (aCons (eC (.bool true)) (aCons (eC (.int 0)) (aNil)))) (aNil))) (aNil))))))))))) (sSeq (sSetO 18 (oLst (aNil))) (sSeq (sFor (iSeq (eVar 17)) (bName 19) (sSeq (sSetO 18 (oBin gCat (eOwn 18) (vOf (oComp (iSeq (eTup (aCons (eC (fnD "placed")) (aCons (eC (fnD "turned")) (aCons (eC (fnD "mirrored")) (aCons (eC (fnD "least_form")) (aCons (eC (fnD "symmetries")) (aNil)))))))) [27] (bName 27) (tYesD) (eFails (S_law []).own "" wd (eCallV 27 tbl_law (aCons (eVar 19) (aNil)))))))) (sSeq (sApp 18 (eFails (S_law []).own "" wd (eCall f_are_alike (chkN f_are_alike.np (aCons (eVar 19) (aCons (eVar 3) (aNil))))))) (sApp 18 (eFails (S_law []).own "" wd (eCall f_are_alike (chkN f_are_alike.np (aCons (eVar 3) (aCons (eVar 19) (aNil)))))))))) (sRet (vBin gEq (eOwn 18) (vOf (oRep 49 (oLst (aCons (eC (.str "piece error")) (aNil)))))))))))))))))))))))
def f_law : FnS := ⟨1, none, false, bodyM 28 none false m_law⟩
@[simp] theorem zio_is_whole : f_is_whole.io = none := id rfl
@[simp] theorem znp_is_whole : f_is_whole.np = 3 := id rfl
@[simp] theorem zio_is_tuple_of : f_is_tuple_of.io = none := id rfl
@[simp] theorem znp_is_tuple_of : f_is_tuple_of.np = 3 := id rfl
@[simp] theorem zio_is_ascending : f_is_ascending.io = none := id rfl
@[simp] theorem znp_is_ascending : f_is_ascending.np = 1 := id rfl
@[simp] theorem zio_is_cell : f_is_cell.io = none := id rfl
@[simp] theorem znp_is_cell : f_is_cell.np = 1 := id rfl
@[simp] theorem zio_are_cells : f_are_cells.io = none := id rfl
@[simp] theorem znp_are_cells : f_are_cells.np = 1 := id rfl
@[simp] theorem zio_neighbours_of : f_neighbours_of.io = none := id rfl
@[simp] theorem znp_neighbours_of : f_neighbours_of.np = 1 := id rfl
@[simp] theorem zio_corners_of : f_corners_of.io = none := id rfl
@[simp] theorem znp_corners_of : f_corners_of.np = 1 := id rfl
@[simp] theorem zio_do_hang : f_do_hang.io = none := id rfl
@[simp] theorem znp_do_hang : f_do_hang.np = 1 := id rfl
@[simp] theorem zio_counts_in : f_counts_in.io = none := id rfl
@[simp] theorem znp_counts_in : f_counts_in.np = 1 := id rfl
@[simp] theorem zio_is_piece : f_is_piece.io = none := id rfl
@[simp] theorem znp_is_piece : f_is_piece.np = 1 := id rfl
@[simp] theorem zio_need_piece : f_need_piece.io = none := id rfl
@[simp] theorem znp_need_piece : f_need_piece.np = 1 := id rfl
@[simp] theorem zio_placed_in : f_placed_in.io = none := id rfl
@[simp] theorem znp_placed_in : f_placed_in.np = 1 := id rfl
@[simp] theorem zio_turned_in : f_turned_in.io = none := id rfl
@[simp] theorem znp_turned_in : f_turned_in.np = 1 := id rfl
@[simp] theorem zio_mirrored_in : f_mirrored_in.io = none := id rfl
@[simp] theorem znp_mirrored_in : f_mirrored_in.np = 1 := id rfl
@[simp] theorem zio_forms_of : f_forms_of.io = none := id rfl
@[simp] theorem znp_forms_of : f_forms_of.np = 1 := id rfl
@[simp] theorem zio_placed : f_placed.io = none := id rfl
@[simp] theorem znp_placed : f_placed.np = 1 := id rfl
@[simp] theorem zio_turned : f_turned.io = none := id rfl
@[simp] theorem znp_turned : f_turned.np = 1 := id rfl
@[simp] theorem zio_mirrored : f_mirrored.io = none := id rfl
@[simp] theorem znp_mirrored : f_mirrored.np = 1 := id rfl
@[simp] theorem zio_least_in : f_least_in.io = none := id rfl
@[simp] theorem znp_least_in : f_least_in.np = 1 := id rfl
@[simp] theorem zio_least_form : f_least_form.io = none := id rfl
@[simp] theorem znp_least_form : f_least_form.np = 1 := id rfl
@[simp] theorem zio_are_alike : f_are_alike.io = none := id rfl
@[simp] theorem znp_are_alike : f_are_alike.np = 2 := id rfl
@[simp] theorem zio_symmetries : f_symmetries.io = none := id rfl
@[simp] theorem znp_symmetries : f_symmetries.np = 1 := id rfl
@[simp] theorem zio__law_cup : f__law_cup.io = none := id rfl
@[simp] theorem znp__law_cup : f__law_cup.np = 1 := id rfl
@[simp] theorem zio__law_roll : f__law_roll.io = some 0 := id rfl
@[simp] theorem znp__law_roll : f__law_roll.np = 2 := id rfl
@[simp] theorem zio__law_some : f__law_some.io = some 0 := id rfl
@[simp] theorem znp__law_some : f__law_some.np = 2 := id rfl
@[simp] theorem zio__law_sort : f__law_sort.io = none := id rfl
@[simp] theorem znp__law_sort : f__law_sort.np = 1 := id rfl
@[simp] theorem zio__law_like (n : Nat) : (f__law_like n).io = none := by cases n <;> rfl
@[simp] theorem znp__law_like (n : Nat) : (f__law_like n).np = 2 := by cases n <;> rfl
@[simp] theorem zio__law_stays : f__law_stays.io = none := id rfl
@[simp] theorem znp__law_stays : f__law_stays.np = 2 := id rfl
@[simp] theorem zio__law_grown : f__law_grown.io = some 0 := id rfl
@[simp] theorem znp__law_grown : f__law_grown.np = 2 := id rfl
@[simp] theorem zio__law_placed : f__law_placed.io = none := id rfl
@[simp] theorem znp__law_placed : f__law_placed.np = 1 := id rfl
@[simp] theorem zio__law_turned : f__law_turned.io = none := id rfl
@[simp] theorem znp__law_turned : f__law_turned.np = 1 := id rfl
@[simp] theorem zio__law_mirrored : f__law_mirrored.io = none := id rfl
@[simp] theorem znp__law_mirrored : f__law_mirrored.np = 1 := id rfl
@[simp] theorem zio__law_stairs : f__law_stairs.io = none := id rfl
@[simp] theorem znp__law_stairs : f__law_stairs.np = 1 := id rfl
@[simp] theorem zio__law_forms : f__law_forms.io = none := id rfl
@[simp] theorem znp__law_forms : f__law_forms.np = 1 := id rfl
@[simp] theorem zio__law_right : f__law_right.io = some 0 := id rfl
@[simp] theorem znp__law_right : f__law_right.np = 2 := id rfl
@[simp] theorem zio_law : f_law.io = none := id rfl
@[simp] theorem znp_law : f_law.np = 1 := id rfl
section
variable [WC] {P : Program} {K : PySem.W.Frag} {mg : Str → Option Value} {base : Heap}
def T0of (K : PySem.W.Frag) : List (Addr × Str) := [((He.cT K ("law", none)).2, ("law" : Str) ++ ".<locals>." ++ "<lambda>")]
theorem hmT_law (K : PySem.W.Frag) : ((He.cT K ("law", none)).2, ("law" : Str) ++ ".<locals>." ++ "<lambda>") ∈ T0of K := by unfold T0of; simp
theorem hu_law (K : PySem.W.Frag) : ∀ p ∈ T0of K, p.1 = (He.cT K ("law", none)).2 → p.2 = ("law" : Str) ++ ".<locals>." ++ "<lambda>" := by intro p hp _; unfold T0of at hp; rw [List.mem_singleton] at hp; rw [hp]
abbrev TBs (K : PySem.W.Frag) (mg : Str → Option Value) (base : Heap) : Prop := ∀ x ∈ (["law"] : List Str), TabB base mg (He.codeOf K (x, none)) (He.cT K (x, none)).2
theorem D_is_whole (C : Facts K mg) : DefOk P WC.w K mg base 1 "is_whole" [] f_is_whole := by
  have := def_ok (P := P) (w := WC.w) (base := base) (k := 0) (m := m_is_whole) (io := none) (ro := false) (S := S_is_whole) C.g_is_whole C.d_is_whole sc_is_whole (by decide) (by simp only [S_is_whole]; decide) (by simp only [S_is_whole]; decide) (fun _ _ _ _ _ _ us hl => match us, hl with | [_, _, _], _ => rfl)
    (fun A outer s H E hr => by
      have tk := dX_takes (P := P) (w := WC.w) (K := K) (mg := mg) (base := base) (N := N_is_whole) (x := "is_whole") (st := s_is_whole) (A := A) (outer := outer) (s := s) (H := H) (E := E)
      have hp := d_own (P := P) (w := WC.w) (K := K) (mg := mg) (base := base) (N := N_is_whole) (x := "is_whole") (st := s_is_whole) (A := A) (outer := outer) (s := s) (H := H) (E := E)
      exact (ss_one (by exact sx_ret (by exact sd_and (by exact sd_isa "int" rfl C.b_isinstance rfl C.b_int boot_int (by exact sd_var 0)) (sd_and (by exact sd_not (by exact sd_isa "bool" rfl C.b_isinstance rfl C.b_bool boot_bool (by exact sd_var 0))) (sd_one (by exact sd_chain (op_gLe (room_hu hr)) (op_gLe (room_hu hr)) (by exact sd_var 1) (by exact sd_var 0) (by exact sd_var 2))))))))
  exact this
theorem D_is_tuple_of (C : Facts K mg) : DefOk P WC.w K mg base 1 "is_tuple_of" [] f_is_tuple_of := by
  have := def_ok (P := P) (w := WC.w) (base := base) (k := 0) (m := m_is_tuple_of) (io := none) (ro := false) (S := S_is_tuple_of) C.g_is_tuple_of C.d_is_tuple_of sc_is_tuple_of (by decide) (by simp only [S_is_tuple_of]; decide) (by simp only [S_is_tuple_of]; decide) (fun _ _ _ _ _ _ us hl => match us, hl with | [_, _, _], _ => rfl)
    (fun A outer s H E hr => by
      have tk := dX_takes (P := P) (w := WC.w) (K := K) (mg := mg) (base := base) (N := N_is_tuple_of) (x := "is_tuple_of") (st := s_is_tuple_of) (A := A) (outer := outer) (s := s) (H := H) (E := E)
      have hp := d_own (P := P) (w := WC.w) (K := K) (mg := mg) (base := base) (N := N_is_tuple_of) (x := "is_tuple_of") (st := s_is_tuple_of) (A := A) (outer := outer) (s := s) (H := H) (E := E)
      exact (ss_one (by exact sx_ret (by exact sd_and (by exact sd_isa "tuple" rfl C.b_isinstance rfl C.b_tuple boot_tuple (by exact sd_var 0)) (sd_one (by exact sd_chain (op_gLe (room_hu hr)) (op_gLe (room_hu hr)) (by exact sd_var 1) (by exact sd_callB call_gLen rfl C.b_len boot_len (by exact sa_cons (by exact sd_var 0) (sa_nil))) (by exact sd_var 2)))))))
  exact this
theorem D_is_ascending (C : Facts K mg) : DefOk P WC.w K mg base 1 "is_ascending" [] f_is_ascending := by
  have := def_ok (P := P) (w := WC.w) (base := base) (k := 0) (m := m_is_ascending) (io := none) (ro := false) (S := S_is_ascending) C.g_is_ascending C.d_is_ascending sc_is_ascending (by decide) (by simp only [S_is_ascending]; decide) (by simp only [S_is_ascending]; decide) (fun _ _ _ _ _ _ us hl => match us, hl with | [_], _ => rfl)
    (fun A outer s H E hr => by
      have tk := dX_takes (P := P) (w := WC.w) (K := K) (mg := mg) (base := base) (N := N_is_ascending) (x := "is_ascending") (st := s_is_ascending) (A := A) (outer := outer) (s := s) (H := H) (E := E)
      have hp := d_own (P := P) (w := WC.w) (K := K) (mg := mg) (base := base) (N := N_is_ascending) (x := "is_ascending") (st := s_is_ascending) (A := A) (outer := outer) (s := s) (H := H) (E := E)
      exact (ss_one (by exact sx_ret (by exact sd_callB (call_gAll rfl) rfl C.b_all boot_all (by exact sa_cons (by exact sd_of (by exact so_comp (own := [("one", 1), ("other", 2)]) rfl sc_is_ascending.nd (by exact sj_zip rfl C.b_zip (by exact sa_cons (by exact sd_var 0) (sa_cons (by exact sd_sl (by exact sd_var 0) (sp_some (by exact sd_int)) (sp_none)) (sa_nil)))) (blkOk_by (N := N_is_ascending) (sc := defScope s_is_ascending) (own := [("one", 1), ("other", 2)]) (by decide +kernel)) (fun _ _ _ _ _ => by exact (by exact sg_tup rfl (sg_cons (by exact sg_name 1 sc_is_ascending.nd) (sg_cons (by exact sg_name 2 sc_is_ascending.nd) (sg_nil))))) (fun _ _ _ _ _ => by exact (sc_nil)) (fun _ _ _ _ _ => by exact (by exact sd_cmp (op_gLt (room_hu hr)) (by exact sd_var 1) (by exact sd_var 2))))) (sa_nil))))))
  exact this
theorem D_is_cell (C : Facts K mg) : DefOk P WC.w K mg base 2 "is_cell" [] f_is_cell := by
  have := def_ok (P := P) (w := WC.w) (base := base) (k := 1) (m := m_is_cell) (io := none) (ro := false) (S := S_is_cell) C.g_is_cell C.d_is_cell sc_is_cell (by decide) (by simp only [S_is_cell]; decide) (by simp only [S_is_cell]; decide) (fun _ _ _ _ _ _ us hl => match us, hl with | [_], _ => rfl)
    (fun A outer s H E hr => by
      have tk := dX_takes (P := P) (w := WC.w) (K := K) (mg := mg) (base := base) (N := N_is_cell) (x := "is_cell") (st := s_is_cell) (A := A) (outer := outer) (s := s) (H := H) (E := E)
      have hp := d_own (P := P) (w := WC.w) (K := K) (mg := mg) (base := base) (N := N_is_cell) (x := "is_cell") (st := s_is_cell) (A := A) (outer := outer) (s := s) (H := H) (E := E)
      exact (ss_one (by exact sx_ret (by exact sd_and (by exact sd_cal (D_is_tuple_of C) tk (hr.mono (by omega)) (.inl rfl) rfl (by exact sa_cons (by exact sd_var 0) (sa_cons (by exact sd_int) (sa_cons (by exact sd_int) (sa_nil))))) (sd_one (by exact sd_callB (call_gAll rfl) rfl C.b_all boot_all (by exact sa_cons (by exact sd_of (by exact so_comp (own := [("one", 1)]) rfl sc_is_cell.nd (by exact sj_seq (by exact sd_var 0)) (blkOk_by (N := N_is_cell) (sc := defScope s_is_cell) (own := [("one", 1)]) (by decide +kernel)) (fun _ _ _ _ _ => by exact (by exact sg_name 1 sc_is_cell.nd)) (fun _ _ _ _ _ => by exact (sc_nil)) (fun _ _ _ _ _ => by exact (by exact sd_cal (D_is_whole C) takesN0 (hr.mono (by omega)) (.inl rfl) rfl (by exact sa_cons (by exact sd_var 1) (sa_cons (by exact sd_un un_gNeg (by exact sd_glob rfl C.c_FAR.choose_spec)) (sa_cons (by exact sd_glob rfl C.c_FAR.choose_spec) (sa_nil)))))))) (sa_nil))))))))
  exact this
theorem D_are_cells (C : Facts K mg) : DefOk P WC.w K mg base 3 "are_cells" [] f_are_cells := by
  have := def_ok (P := P) (w := WC.w) (base := base) (k := 2) (m := m_are_cells) (io := none) (ro := false) (S := S_are_cells) C.g_are_cells C.d_are_cells sc_are_cells (by decide) (by simp only [S_are_cells]; decide) (by simp only [S_are_cells]; decide) (fun _ _ _ _ _ _ us hl => match us, hl with | [_], _ => rfl)
    (fun A outer s H E hr => by
      have tk := dX_takes (P := P) (w := WC.w) (K := K) (mg := mg) (base := base) (N := N_are_cells) (x := "are_cells") (st := s_are_cells) (A := A) (outer := outer) (s := s) (H := H) (E := E)
      have hp := d_own (P := P) (w := WC.w) (K := K) (mg := mg) (base := base) (N := N_are_cells) (x := "are_cells") (st := s_are_cells) (A := A) (outer := outer) (s := s) (H := H) (E := E)
      exact (ss_one (by exact sx_ret (by exact sd_and (by exact sd_cal (D_is_tuple_of C) tk (hr.mono (by omega)) (.inl rfl) rfl (by exact sa_cons (by exact sd_var 0) (sa_cons (by exact sd_int) (sa_cons (by exact sd_glob rfl C.c_CELLS.choose_spec) (sa_nil))))) (sd_and (by exact sd_callB (call_gAll rfl) rfl C.b_all boot_all (by exact sa_cons (by exact sd_of (by exact so_comp (own := [("one", 1)]) rfl sc_are_cells.nd (by exact sj_seq (by exact sd_var 0)) (blkOk_by (N := N_are_cells) (sc := defScope s_are_cells) (own := [("one", 1)]) (by decide +kernel)) (fun _ _ _ _ _ => by exact (by exact sg_name 1 sc_are_cells.nd)) (fun _ _ _ _ _ => by exact (sc_nil)) (fun _ _ _ _ _ => by exact (by exact sd_cal (D_is_cell C) takesN0 (hr.mono (by omega)) (.inl rfl) rfl (by exact sa_cons (by exact sd_var 1) (sa_nil)))))) (sa_nil))) (sd_one (by exact sd_cal (D_is_ascending C) tk (hr.mono (by omega)) (.inl rfl) rfl (by exact sa_cons (by exact sd_var 0) (sa_nil)))))))))
  exact this
theorem D_neighbours_of (C : Facts K mg) : DefOk P WC.w K mg base 1 "neighbours_of" [] f_neighbours_of := by
  have := def_ok (P := P) (w := WC.w) (base := base) (k := 0) (m := m_neighbours_of) (io := none) (ro := false) (S := S_neighbours_of) C.g_neighbours_of C.d_neighbours_of sc_neighbours_of (by decide) (by simp only [S_neighbours_of]; decide) (by simp only [S_neighbours_of]; decide) (fun _ _ _ _ _ _ us hl => match us, hl with | [_], _ => rfl)
    (fun A outer s H E hr => by
      have tk := dX_takes (P := P) (w := WC.w) (K := K) (mg := mg) (base := base) (N := N_neighbours_of) (x := "neighbours_of") (st := s_neighbours_of) (A := A) (outer := outer) (s := s) (H := H) (E := E)
      have hp := d_own (P := P) (w := WC.w) (K := K) (mg := mg) (base := base) (N := N_neighbours_of) (x := "neighbours_of") (st := s_neighbours_of) (A := A) (outer := outer) (s := s) (H := H) (E := E)
      exact (ss_cons (by exact sx_unp (by exact sd_var 0) (by exact sg_tup rfl (sg_cons (by exact sg_name 1 sc_neighbours_of.nd) (sg_cons (by exact sg_name 2 sc_neighbours_of.nd) (sg_nil))))) (ss_one (by exact sx_ret (by exact sd_of (by exact so_lst (by exact sa_cons (by exact sd_tup (by exact sa_cons (by exact sd_var 1) (sa_cons (by exact sd_bin op_gSub (by exact sd_var 2) (by exact sd_int)) (sa_nil)))) (sa_cons (by exact sd_tup (by exact sa_cons (by exact sd_bin op_gAdd (by exact sd_var 1) (by exact sd_int)) (sa_cons (by exact sd_var 2) (sa_nil)))) (sa_cons (by exact sd_tup (by exact sa_cons (by exact sd_var 1) (sa_cons (by exact sd_bin op_gAdd (by exact sd_var 2) (by exact sd_int)) (sa_nil)))) (sa_cons (by exact sd_tup (by exact sa_cons (by exact sd_bin op_gSub (by exact sd_var 1) (by exact sd_int)) (sa_cons (by exact sd_var 2) (sa_nil)))) (sa_nil)))))))))))
  exact this
theorem D_corners_of (C : Facts K mg) : DefOk P WC.w K mg base 1 "corners_of" [] f_corners_of := by
  have := def_ok (P := P) (w := WC.w) (base := base) (k := 0) (m := m_corners_of) (io := none) (ro := false) (S := S_corners_of) C.g_corners_of C.d_corners_of sc_corners_of (by decide) (by simp only [S_corners_of]; decide) (by simp only [S_corners_of]; decide) (fun _ _ _ _ _ _ us hl => match us, hl with | [_], _ => rfl)
    (fun A outer s H E hr => by
      have tk := dX_takes (P := P) (w := WC.w) (K := K) (mg := mg) (base := base) (N := N_corners_of) (x := "corners_of") (st := s_corners_of) (A := A) (outer := outer) (s := s) (H := H) (E := E)
      have hp := d_own (P := P) (w := WC.w) (K := K) (mg := mg) (base := base) (N := N_corners_of) (x := "corners_of") (st := s_corners_of) (A := A) (outer := outer) (s := s) (H := H) (E := E)
      exact (ss_cons (by exact sx_unp (by exact sd_var 0) (by exact sg_tup rfl (sg_cons (by exact sg_name 1 sc_corners_of.nd) (sg_cons (by exact sg_name 2 sc_corners_of.nd) (sg_nil))))) (ss_one (by exact sx_ret (by exact sd_of (by exact so_lst (by exact sa_cons (by exact sd_tup (by exact sa_cons (by exact sd_var 1) (sa_cons (by exact sd_var 2) (sa_nil)))) (sa_cons (by exact sd_tup (by exact sa_cons (by exact sd_bin op_gAdd (by exact sd_var 1) (by exact sd_int)) (sa_cons (by exact sd_var 2) (sa_nil)))) (sa_cons (by exact sd_tup (by exact sa_cons (by exact sd_bin op_gAdd (by exact sd_var 1) (by exact sd_int)) (sa_cons (by exact sd_bin op_gAdd (by exact sd_var 2) (by exact sd_int)) (sa_nil)))) (sa_cons (by exact sd_tup (by exact sa_cons (by exact sd_var 1) (sa_cons (by exact sd_bin op_gAdd (by exact sd_var 2) (by exact sd_int)) (sa_nil)))) (sa_nil)))))))))))
  exact this
theorem D_do_hang (C : Facts K mg) : DefOk P WC.w K mg base 2 "do_hang" [] f_do_hang := by
  have := def_ok (P := P) (w := WC.w) (base := base) (k := 1) (m := m_do_hang) (io := none) (ro := false) (S := S_do_hang) C.g_do_hang C.d_do_hang sc_do_hang (by decide) (by simp only [S_do_hang]; decide) (by simp only [S_do_hang]; decide) (fun _ _ _ _ _ _ us hl => match us, hl with | [_], _ => rfl)
    (fun A outer s H E hr => by
      have tk := dX_takes (P := P) (w := WC.w) (K := K) (mg := mg) (base := base) (N := N_do_hang) (x := "do_hang") (st := s_do_hang) (A := A) (outer := outer) (s := s) (H := H) (E := E)
      have hp := d_own (P := P) (w := WC.w) (K := K) (mg := mg) (base := base) (N := N_do_hang) (x := "do_hang") (st := s_do_hang) (A := A) (outer := outer) (s := s) (H := H) (E := E)
      exact (ss_cons (by exact sx_if (by exact st_cmp (op_gEq (room_hu hr)) (by exact sd_var 0) (by exact sd_tup (by exact sa_nil))) (ss_one (by exact sx_ret (by exact sd_bool))) (ss_nil)) (ss_cons (by exact sx_seto 1 sc_do_hang.nd (by exact so_callTy (call_gDict rfl (room_hu hr)) rfl C.b_dict boot_dict (by exact sa_cons (by exact sd_of (by exact so_comp (own := [("cell", 5)]) rfl sc_do_hang.nd (by exact sj_seq (by exact sd_var 0)) (blkOk_by (N := N_do_hang) (sc := defScope s_do_hang) (own := [("cell", 5)]) (by decide +kernel)) (fun _ _ _ _ _ => by exact (by exact sg_name 5 sc_do_hang.nd)) (fun _ _ _ _ _ => by exact (sc_nil)) (fun _ _ _ _ _ => by exact (by exact sd_tup (by exact sa_cons (by exact sd_var 5) (sa_cons (by exact sd_bool) (sa_nil))))))) (sa_nil)))) (ss_cons (by exact sx_seto 2 sc_do_hang.nd (by exact so_lst (by exact sa_cons (by exact sd_ix (room_hu hr) (by exact sd_var 0) (by exact sd_int)) (sa_nil)))) (ss_cons (by exact sx_popk (room_hu hr) 1 (by exact sd_ix (room_hu hr) (by exact sd_var 0) (by exact sd_int))) (ss_cons (by exact sx_for hp rfl (by exact sj_rng1 rfl C.b_range (by exact sa_cons (by exact sd_callB call_gLen rfl C.b_len boot_len (by exact sa_cons (by exact sd_var 0) (sa_nil))) (sa_nil))) (by exact sg_name 3 sc_do_hang.nd) (ss_one (by exact sx_if (by exact st_cmp (op_gLt (room_hu hr)) (by exact sd_var 3) (by exact sd_callB call_gLen rfl C.b_len boot_len (by exact sa_cons (by exact sd_own 2) (sa_nil)))) (ss_one (by exact sx_for hp rfl (by exact sj_seq (by exact sd_cal (D_neighbours_of C) tk (hr.mono (by omega)) (.inl rfl) rfl (by exact sa_cons (by exact sd_ix (room_hu hr) (by exact sd_own 2) (by exact sd_var 3)) (sa_nil)))) (by exact sg_name 4 sc_do_hang.nd) (ss_one (by exact sx_if (by exact st_cmp (op_gIn (room_hu hr)) (by exact sd_var 4) (by exact sd_own 1)) (ss_cons (by exact sx_popk (room_hu hr) 1 (by exact sd_var 4)) (ss_one (by exact sx_app 2 (by exact sd_var 4)))) (ss_nil))))) (ss_nil)))) (ss_one (by exact sx_ret (by exact sd_cmp (op_gEqE (room_hu hr)) (by exact sd_own 1) (by exact sd_of (by exact so_dnew)))))))))))
  exact this
theorem D_counts_in (C : Facts K mg) : DefOk P WC.w K mg base 2 "counts_in" [] f_counts_in := by
  have := def_ok (P := P) (w := WC.w) (base := base) (k := 1) (m := m_counts_in) (io := none) (ro := false) (S := S_counts_in) C.g_counts_in C.d_counts_in sc_counts_in (by decide) (by simp only [S_counts_in]; decide) (by simp only [S_counts_in]; decide) (fun _ _ _ _ _ _ us hl => match us, hl with | [_], _ => rfl)
    (fun A outer s H E hr => by
      have tk := dX_takes (P := P) (w := WC.w) (K := K) (mg := mg) (base := base) (N := N_counts_in) (x := "counts_in") (st := s_counts_in) (A := A) (outer := outer) (s := s) (H := H) (E := E)
      have hp := d_own (P := P) (w := WC.w) (K := K) (mg := mg) (base := base) (N := N_counts_in) (x := "counts_in") (st := s_counts_in) (A := A) (outer := outer) (s := s) (H := H) (E := E)
      exact (ss_cons (by exact sx_par 1 2 rfl sc_counts_in.nd (si_o (by exact so_dnew) (si_o (by exact so_dnew) (si_nil)))) (ss_cons (by exact sx_for hp rfl (by exact sj_seq (by exact sd_var 0)) (by exact sg_name 3 sc_counts_in.nd) (ss_cons (by exact sx_set 4 sc_counts_in.nd (by exact sd_cal (D_corners_of C) tk (hr.mono (by omega)) (.inl rfl) rfl (by exact sa_cons (by exact sd_var 3) (sa_nil)))) (ss_one (by exact sx_for hp rfl (by exact sj_zip rfl C.b_zip (by exact sa_cons (by exact sd_var 4) (sa_cons (by exact sd_bin op_gAdd (by exact sd_sl (by exact sd_var 4) (sp_some (by exact sd_int)) (sp_none)) (by exact sd_sl (by exact sd_var 4) (sp_none) (sp_some (by exact sd_int)))) (sa_nil)))) (by exact sg_tup rfl (sg_cons (by exact sg_name 5 sc_counts_in.nd) (sg_cons (by exact sg_name 6 sc_counts_in.nd) (sg_nil)))) (ss_cons (by exact sx_setix (room_hu hr) 1 (by exact sd_bool) (by exact sd_var 5)) (ss_one (by exact sx_setix (room_hu hr) 2 (by exact sd_bool) (by exact sd_tup (by exact sa_cons (by exact sd_callB (call_gMin2 rfl (room_hu hr)) rfl C.b_min boot_min (by exact sa_cons (by exact sd_var 5) (sa_cons (by exact sd_var 6) (sa_nil)))) (sa_cons (by exact sd_callB (call_gMax2 rfl (room_hu hr)) rfl C.b_max boot_max (by exact sa_cons (by exact sd_var 5) (sa_cons (by exact sd_var 6) (sa_nil)))) (sa_nil))))))))))) (ss_one (by exact sx_ret (by exact sd_tup (by exact sa_cons (by exact sd_callB call_gLen rfl C.b_len boot_len (by exact sa_cons (by exact sd_own 1) (sa_nil))) (sa_cons (by exact sd_callB call_gLen rfl C.b_len boot_len (by exact sa_cons (by exact sd_own 2) (sa_nil))) (sa_cons (by exact sd_callB call_gLen rfl C.b_len boot_len (by exact sa_cons (by exact sd_var 0) (sa_nil))) (sa_nil))))))))))
  exact this
theorem D_is_piece (C : Facts K mg) : DefOk P WC.w K mg base 4 "is_piece" [] f_is_piece := by
  have := def_ok (P := P) (w := WC.w) (base := base) (k := 3) (m := m_is_piece) (io := none) (ro := false) (S := S_is_piece) C.g_is_piece C.d_is_piece sc_is_piece (by decide) (by simp only [S_is_piece]; decide) (by simp only [S_is_piece]; decide) (fun _ _ _ _ _ _ us hl => match us, hl with | [_], _ => rfl)
    (fun A outer s H E hr => by
      have tk := dX_takes (P := P) (w := WC.w) (K := K) (mg := mg) (base := base) (N := N_is_piece) (x := "is_piece") (st := s_is_piece) (A := A) (outer := outer) (s := s) (H := H) (E := E)
      have hp := d_own (P := P) (w := WC.w) (K := K) (mg := mg) (base := base) (N := N_is_piece) (x := "is_piece") (st := s_is_piece) (A := A) (outer := outer) (s := s) (H := H) (E := E)
      exact (ss_cons (by exact sx_if (by exact pt_bool (sw_or (by exact st_not (by exact st_tru (by exact sd_cal (D_are_cells C) tk (hr.mono (by omega)) (.inl rfl) rfl (by exact sa_cons (by exact sd_var 0) (sa_nil))))) (sw_or (by exact st_cmp (op_gEq (room_hu hr)) (by exact sd_var 0) (by exact sd_tup (by exact sa_nil))) (sw_or1 (by exact st_not (by exact st_tru (by exact sd_cal (D_do_hang C) tk (hr.mono (by omega)) (.inl rfl) rfl (by exact sa_cons (by exact sd_var 0) (sa_nil))))))))) (ss_one (by exact sx_ret (by exact sd_bool))) (ss_nil)) (ss_cons (by exact sx_unp (by exact sd_cal (D_counts_in C) tk (hr.mono (by omega)) (.inl rfl) rfl (by exact sa_cons (by exact sd_var 0) (sa_nil))) (by exact sg_tup rfl (sg_cons (by exact sg_name 1 sc_is_piece.nd) (sg_cons (by exact sg_name 2 sc_is_piece.nd) (sg_cons (by exact sg_name 3 sc_is_piece.nd) (sg_nil)))))) (ss_one (by exact sx_ret (by exact sd_cmp (op_gEq (room_hu hr)) (by exact sd_bin op_gAdd (by exact sd_bin op_gSub (by exact sd_var 1) (by exact sd_var 2)) (by exact sd_var 3)) (by exact sd_int)))))))
  exact this
theorem D_need_piece (C : Facts K mg) : DefOk P WC.w K mg base 5 "need_piece" [] f_need_piece := by
  have := def_ok (P := P) (w := WC.w) (base := base) (k := 4) (m := m_need_piece) (io := none) (ro := false) (S := S_need_piece) C.g_need_piece C.d_need_piece sc_need_piece (by decide) (by simp only [S_need_piece]; decide) (by simp only [S_need_piece]; decide) (fun _ _ _ _ _ _ us hl => match us, hl with | [_], _ => rfl)
    (fun A outer s H E hr => by
      have tk := dX_takes (P := P) (w := WC.w) (K := K) (mg := mg) (base := base) (N := N_need_piece) (x := "need_piece") (st := s_need_piece) (A := A) (outer := outer) (s := s) (H := H) (E := E)
      have hp := d_own (P := P) (w := WC.w) (K := K) (mg := mg) (base := base) (N := N_need_piece) (x := "need_piece") (st := s_need_piece) (A := A) (outer := outer) (s := s) (H := H) (E := E)
      exact (ss_one (by exact sx_if (by exact st_not (by exact st_tru (by exact sd_cal (D_is_piece C) tk (hr.mono (by omega)) (.inl rfl) rfl (by exact sa_cons (by exact sd_var 0) (sa_nil))))) (ss_one (by exact sx_raise rfl tk PySem.F.excBase_ValueError C.e_InvalidPiece.1 C.g_InvalidPiece C.e_InvalidPiece.2.1 (raises_own C.e_InvalidPiece.2.2.1 C.e_InvalidPiece.2.2.2) rfl)) (ss_nil))))
  exact this
theorem D_placed_in (C : Facts K mg) : DefOk P WC.w K mg base 1 "placed_in" [] f_placed_in := by
  have := def_ok (P := P) (w := WC.w) (base := base) (k := 0) (m := m_placed_in) (io := none) (ro := false) (S := S_placed_in) C.g_placed_in C.d_placed_in sc_placed_in (by decide) (by simp only [S_placed_in]; decide) (by simp only [S_placed_in]; decide) (fun _ _ _ _ _ _ us hl => match us, hl with | [_], _ => rfl)
    (fun A outer s H E hr => by
      have tk := dX_takes (P := P) (w := WC.w) (K := K) (mg := mg) (base := base) (N := N_placed_in) (x := "placed_in") (st := s_placed_in) (A := A) (outer := outer) (s := s) (H := H) (E := E)
      have hp := d_own (P := P) (w := WC.w) (K := K) (mg := mg) (base := base) (N := N_placed_in) (x := "placed_in") (st := s_placed_in) (A := A) (outer := outer) (s := s) (H := H) (E := E)
      exact (ss_cons (by exact sx_upar [1, 2] rfl (si_v (by exact sd_callB (call_gMin rfl (room_hu hr)) rfl C.b_min boot_min (by exact sa_cons (by exact sd_of (by exact so_comp (own := [("x", 3), ("y", 4)]) rfl sc_placed_in.nd (by exact sj_seq (by exact sd_var 0)) (blkOk_by (N := N_placed_in) (sc := defScope s_placed_in) (own := [("x", 3), ("y", 4)]) (by decide +kernel)) (fun _ _ _ _ _ => by exact (by exact sg_tup rfl (sg_cons (by exact sg_name 3 sc_placed_in.nd) (sg_cons (by exact sg_name 4 sc_placed_in.nd) (sg_nil))))) (fun _ _ _ _ _ => by exact (sc_nil)) (fun _ _ _ _ _ => by exact (by exact sd_var 3)))) (sa_nil))) (si_v (by exact sd_callB (call_gMin rfl (room_hu hr)) rfl C.b_min boot_min (by exact sa_cons (by exact sd_of (by exact so_comp (own := [("x", 3), ("y", 4)]) rfl sc_placed_in.nd (by exact sj_seq (by exact sd_var 0)) (blkOk_by (N := N_placed_in) (sc := defScope s_placed_in) (own := [("x", 3), ("y", 4)]) (by decide +kernel)) (fun _ _ _ _ _ => by exact (by exact sg_tup rfl (sg_cons (by exact sg_name 3 sc_placed_in.nd) (sg_cons (by exact sg_name 4 sc_placed_in.nd) (sg_nil))))) (fun _ _ _ _ _ => by exact (sc_nil)) (fun _ _ _ _ _ => by exact (by exact sd_var 4)))) (sa_nil))) (si_nil))) (sn_cons 1 sc_placed_in.nd (sn_cons 2 sc_placed_in.nd (sn_nil)))) (ss_one (by exact sx_ret (by exact sd_callTy call_gTuple rfl C.b_tuple boot_tuple (by exact sa_cons (by exact sd_of (by exact so_callB (call_gSorted rfl (room_hu hr)) rfl C.b_sorted boot_sorted (by exact sa_cons (by exact sd_of (by exact so_comp (own := [("x", 3), ("y", 4)]) rfl sc_placed_in.nd (by exact sj_seq (by exact sd_var 0)) (blkOk_by (N := N_placed_in) (sc := defScope s_placed_in) (own := [("x", 3), ("y", 4)]) (by decide +kernel)) (fun _ _ _ _ _ => by exact (by exact sg_tup rfl (sg_cons (by exact sg_name 3 sc_placed_in.nd) (sg_cons (by exact sg_name 4 sc_placed_in.nd) (sg_nil))))) (fun _ _ _ _ _ => by exact (sc_nil)) (fun _ _ _ _ _ => by exact (by exact sd_tup (by exact sa_cons (by exact sd_bin op_gSub (by exact sd_var 3) (by exact sd_var 1)) (sa_cons (by exact sd_bin op_gSub (by exact sd_var 4) (by exact sd_var 2)) (sa_nil))))))) (sa_nil)))) (sa_nil)))))))
  exact this
theorem D_turned_in (C : Facts K mg) : DefOk P WC.w K mg base 2 "turned_in" [] f_turned_in := by
  have := def_ok (P := P) (w := WC.w) (base := base) (k := 1) (m := m_turned_in) (io := none) (ro := false) (S := S_turned_in) C.g_turned_in C.d_turned_in sc_turned_in (by decide) (by simp only [S_turned_in]; decide) (by simp only [S_turned_in]; decide) (fun _ _ _ _ _ _ us hl => match us, hl with | [_], _ => rfl)
    (fun A outer s H E hr => by
      have tk := dX_takes (P := P) (w := WC.w) (K := K) (mg := mg) (base := base) (N := N_turned_in) (x := "turned_in") (st := s_turned_in) (A := A) (outer := outer) (s := s) (H := H) (E := E)
      have hp := d_own (P := P) (w := WC.w) (K := K) (mg := mg) (base := base) (N := N_turned_in) (x := "turned_in") (st := s_turned_in) (A := A) (outer := outer) (s := s) (H := H) (E := E)
      exact (ss_one (by exact sx_ret (by exact sd_cal (D_placed_in C) tk (hr.mono (by omega)) (.inl rfl) rfl (by exact sa_cons (by exact sd_of (by exact so_comp (own := [("x", 1), ("y", 2)]) rfl sc_turned_in.nd (by exact sj_seq (by exact sd_var 0)) (blkOk_by (N := N_turned_in) (sc := defScope s_turned_in) (own := [("x", 1), ("y", 2)]) (by decide +kernel)) (fun _ _ _ _ _ => by exact (by exact sg_tup rfl (sg_cons (by exact sg_name 1 sc_turned_in.nd) (sg_cons (by exact sg_name 2 sc_turned_in.nd) (sg_nil))))) (fun _ _ _ _ _ => by exact (sc_nil)) (fun _ _ _ _ _ => by exact (by exact sd_tup (by exact sa_cons (by exact sd_un un_gNeg (by exact sd_var 2)) (sa_cons (by exact sd_var 1) (sa_nil))))))) (sa_nil))))))
  exact this
theorem D_mirrored_in (C : Facts K mg) : DefOk P WC.w K mg base 2 "mirrored_in" [] f_mirrored_in := by
  have := def_ok (P := P) (w := WC.w) (base := base) (k := 1) (m := m_mirrored_in) (io := none) (ro := false) (S := S_mirrored_in) C.g_mirrored_in C.d_mirrored_in sc_mirrored_in (by decide) (by simp only [S_mirrored_in]; decide) (by simp only [S_mirrored_in]; decide) (fun _ _ _ _ _ _ us hl => match us, hl with | [_], _ => rfl)
    (fun A outer s H E hr => by
      have tk := dX_takes (P := P) (w := WC.w) (K := K) (mg := mg) (base := base) (N := N_mirrored_in) (x := "mirrored_in") (st := s_mirrored_in) (A := A) (outer := outer) (s := s) (H := H) (E := E)
      have hp := d_own (P := P) (w := WC.w) (K := K) (mg := mg) (base := base) (N := N_mirrored_in) (x := "mirrored_in") (st := s_mirrored_in) (A := A) (outer := outer) (s := s) (H := H) (E := E)
      exact (ss_one (by exact sx_ret (by exact sd_cal (D_placed_in C) tk (hr.mono (by omega)) (.inl rfl) rfl (by exact sa_cons (by exact sd_of (by exact so_comp (own := [("x", 1), ("y", 2)]) rfl sc_mirrored_in.nd (by exact sj_seq (by exact sd_var 0)) (blkOk_by (N := N_mirrored_in) (sc := defScope s_mirrored_in) (own := [("x", 1), ("y", 2)]) (by decide +kernel)) (fun _ _ _ _ _ => by exact (by exact sg_tup rfl (sg_cons (by exact sg_name 1 sc_mirrored_in.nd) (sg_cons (by exact sg_name 2 sc_mirrored_in.nd) (sg_nil))))) (fun _ _ _ _ _ => by exact (sc_nil)) (fun _ _ _ _ _ => by exact (by exact sd_tup (by exact sa_cons (by exact sd_un un_gNeg (by exact sd_var 1)) (sa_cons (by exact sd_var 2) (sa_nil))))))) (sa_nil))))))
  exact this
theorem D_forms_of (C : Facts K mg) : DefOk P WC.w K mg base 3 "forms_of" [] f_forms_of := by
  have := def_ok (P := P) (w := WC.w) (base := base) (k := 2) (m := m_forms_of) (io := none) (ro := false) (S := S_forms_of) C.g_forms_of C.d_forms_of sc_forms_of (by decide) (by simp only [S_forms_of]; decide) (by simp only [S_forms_of]; decide) (fun _ _ _ _ _ _ us hl => match us, hl with | [_], _ => rfl)
    (fun A outer s H E hr => by
      have tk := dX_takes (P := P) (w := WC.w) (K := K) (mg := mg) (base := base) (N := N_forms_of) (x := "forms_of") (st := s_forms_of) (A := A) (outer := outer) (s := s) (H := H) (E := E)
      have hp := d_own (P := P) (w := WC.w) (K := K) (mg := mg) (base := base) (N := N_forms_of) (x := "forms_of") (st := s_forms_of) (A := A) (outer := outer) (s := s) (H := H) (E := E)
      exact (ss_cons (by exact sx_seto 1 sc_forms_of.nd (by exact so_lst (by exact sa_nil))) (ss_cons (by exact sx_for hp rfl (by exact sj_seq (by exact sd_tup (by exact sa_cons (by exact sd_bool) (sa_cons (by exact sd_bool) (sa_nil))))) (by exact sg_name 2 sc_forms_of.nd) (ss_cons (by exact sx_set 3 sc_forms_of.nd (by exact sd_if (by exact st_tru (by exact sd_var 2)) (by exact sd_cal (D_mirrored_in C) tk (hr.mono (by omega)) (.inl rfl) rfl (by exact sa_cons (by exact sd_var 0) (sa_nil))) (by exact sd_cal (D_placed_in C) tk (hr.mono (by omega)) (.inl rfl) rfl (by exact sa_cons (by exact sd_var 0) (sa_nil))))) (ss_one (by exact sx_for hp rfl (by exact sj_rng1 rfl C.b_range (by exact sa_cons (by exact sd_int) (sa_nil))) (by exact sg_name 4 sc_forms_of.nd) (ss_cons (by exact sx_app 1 (by exact sd_tup (by exact sa_cons (by exact sd_var 4) (sa_cons (by exact sd_var 2) (sa_cons (by exact sd_var 3) (sa_nil)))))) (ss_one (by exact sx_set 3 sc_forms_of.nd (by exact sd_cal (D_turned_in C) tk (hr.mono (by omega)) (.inl rfl) rfl (by exact sa_cons (by exact sd_var 3) (sa_nil)))))))))) (ss_one (by exact sx_ret (by exact sd_own 1))))))
  exact this
theorem D_placed (C : Facts K mg) : DefOk P WC.w K mg base 6 "placed" [] f_placed := by
  have := def_ok (P := P) (w := WC.w) (base := base) (k := 5) (m := m_placed) (io := none) (ro := false) (S := S_placed) C.g_placed C.d_placed sc_placed (by decide) (by simp only [S_placed]; decide) (by simp only [S_placed]; decide) (fun _ _ _ _ _ _ us hl => match us, hl with | [_], _ => rfl)
    (fun A outer s H E hr => by
      have tk := dX_takes (P := P) (w := WC.w) (K := K) (mg := mg) (base := base) (N := N_placed) (x := "placed") (st := s_placed) (A := A) (outer := outer) (s := s) (H := H) (E := E)
      have hp := d_own (P := P) (w := WC.w) (K := K) (mg := mg) (base := base) (N := N_placed) (x := "placed") (st := s_placed) (A := A) (outer := outer) (s := s) (H := H) (E := E)
      exact (ss_cons (by exact sx_expr (by exact sd_cal (D_need_piece C) tk (hr.mono (by omega)) (.inl rfl) rfl (by exact sa_cons (by exact sd_var 0) (sa_nil)))) (ss_one (by exact sx_ret (by exact sd_cal (D_placed_in C) tk (hr.mono (by omega)) (.inl rfl) rfl (by exact sa_cons (by exact sd_var 0) (sa_nil)))))))
  exact this
theorem D_turned (C : Facts K mg) : DefOk P WC.w K mg base 6 "turned" [] f_turned := by
  have := def_ok (P := P) (w := WC.w) (base := base) (k := 5) (m := m_turned) (io := none) (ro := false) (S := S_turned) C.g_turned C.d_turned sc_turned (by decide) (by simp only [S_turned]; decide) (by simp only [S_turned]; decide) (fun _ _ _ _ _ _ us hl => match us, hl with | [_], _ => rfl)
    (fun A outer s H E hr => by
      have tk := dX_takes (P := P) (w := WC.w) (K := K) (mg := mg) (base := base) (N := N_turned) (x := "turned") (st := s_turned) (A := A) (outer := outer) (s := s) (H := H) (E := E)
      have hp := d_own (P := P) (w := WC.w) (K := K) (mg := mg) (base := base) (N := N_turned) (x := "turned") (st := s_turned) (A := A) (outer := outer) (s := s) (H := H) (E := E)
      exact (ss_cons (by exact sx_expr (by exact sd_cal (D_need_piece C) tk (hr.mono (by omega)) (.inl rfl) rfl (by exact sa_cons (by exact sd_var 0) (sa_nil)))) (ss_one (by exact sx_ret (by exact sd_cal (D_turned_in C) tk (hr.mono (by omega)) (.inl rfl) rfl (by exact sa_cons (by exact sd_var 0) (sa_nil)))))))
  exact this
theorem D_mirrored (C : Facts K mg) : DefOk P WC.w K mg base 6 "mirrored" [] f_mirrored := by
  have := def_ok (P := P) (w := WC.w) (base := base) (k := 5) (m := m_mirrored) (io := none) (ro := false) (S := S_mirrored) C.g_mirrored C.d_mirrored sc_mirrored (by decide) (by simp only [S_mirrored]; decide) (by simp only [S_mirrored]; decide) (fun _ _ _ _ _ _ us hl => match us, hl with | [_], _ => rfl)
    (fun A outer s H E hr => by
      have tk := dX_takes (P := P) (w := WC.w) (K := K) (mg := mg) (base := base) (N := N_mirrored) (x := "mirrored") (st := s_mirrored) (A := A) (outer := outer) (s := s) (H := H) (E := E)
      have hp := d_own (P := P) (w := WC.w) (K := K) (mg := mg) (base := base) (N := N_mirrored) (x := "mirrored") (st := s_mirrored) (A := A) (outer := outer) (s := s) (H := H) (E := E)
      exact (ss_cons (by exact sx_expr (by exact sd_cal (D_need_piece C) tk (hr.mono (by omega)) (.inl rfl) rfl (by exact sa_cons (by exact sd_var 0) (sa_nil)))) (ss_one (by exact sx_ret (by exact sd_cal (D_mirrored_in C) tk (hr.mono (by omega)) (.inl rfl) rfl (by exact sa_cons (by exact sd_var 0) (sa_nil)))))))
  exact this
theorem D_least_in (C : Facts K mg) : DefOk P WC.w K mg base 4 "least_in" [] f_least_in := by
  have := def_ok (P := P) (w := WC.w) (base := base) (k := 3) (m := m_least_in) (io := none) (ro := false) (S := S_least_in) C.g_least_in C.d_least_in sc_least_in (by decide) (by simp only [S_least_in]; decide) (by simp only [S_least_in]; decide) (fun _ _ _ _ _ _ us hl => match us, hl with | [_], _ => rfl)
    (fun A outer s H E hr => by
      have tk := dX_takes (P := P) (w := WC.w) (K := K) (mg := mg) (base := base) (N := N_least_in) (x := "least_in") (st := s_least_in) (A := A) (outer := outer) (s := s) (H := H) (E := E)
      have hp := d_own (P := P) (w := WC.w) (K := K) (mg := mg) (base := base) (N := N_least_in) (x := "least_in") (st := s_least_in) (A := A) (outer := outer) (s := s) (H := H) (E := E)
      exact (ss_one (by exact sx_ret (by exact sd_callB (call_gMin rfl (room_hu hr)) rfl C.b_min boot_min (by exact sa_cons (by exact sd_of (by exact so_comp (own := [("turns", 1), ("is_mirrored", 2), ("cells", 3)]) rfl sc_least_in.nd (by exact sj_seq (by exact sd_cal (D_forms_of C) tk (hr.mono (by omega)) (.inl rfl) rfl (by exact sa_cons (by exact sd_var 0) (sa_nil)))) (blkOk_by (N := N_least_in) (sc := defScope s_least_in) (own := [("turns", 1), ("is_mirrored", 2), ("cells", 3)]) (by decide +kernel)) (fun _ _ _ _ _ => by exact (by exact sg_tup rfl (sg_cons (by exact sg_name 1 sc_least_in.nd) (sg_cons (by exact sg_name 2 sc_least_in.nd) (sg_cons (by exact sg_name 3 sc_least_in.nd) (sg_nil)))))) (fun _ _ _ _ _ => by exact (sc_nil)) (fun _ _ _ _ _ => by exact (by exact sd_var 3)))) (sa_nil))))))
  exact this
theorem D_least_form (C : Facts K mg) : DefOk P WC.w K mg base 6 "least_form" [] f_least_form := by
  have := def_ok (P := P) (w := WC.w) (base := base) (k := 5) (m := m_least_form) (io := none) (ro := false) (S := S_least_form) C.g_least_form C.d_least_form sc_least_form (by decide) (by simp only [S_least_form]; decide) (by simp only [S_least_form]; decide) (fun _ _ _ _ _ _ us hl => match us, hl with | [_], _ => rfl)
    (fun A outer s H E hr => by
      have tk := dX_takes (P := P) (w := WC.w) (K := K) (mg := mg) (base := base) (N := N_least_form) (x := "least_form") (st := s_least_form) (A := A) (outer := outer) (s := s) (H := H) (E := E)
      have hp := d_own (P := P) (w := WC.w) (K := K) (mg := mg) (base := base) (N := N_least_form) (x := "least_form") (st := s_least_form) (A := A) (outer := outer) (s := s) (H := H) (E := E)
      exact (ss_cons (by exact sx_expr (by exact sd_cal (D_need_piece C) tk (hr.mono (by omega)) (.inl rfl) rfl (by exact sa_cons (by exact sd_var 0) (sa_nil)))) (ss_one (by exact sx_ret (by exact sd_cal (D_least_in C) tk (hr.mono (by omega)) (.inl rfl) rfl (by exact sa_cons (by exact sd_var 0) (sa_nil)))))))
  exact this
theorem D_are_alike (C : Facts K mg) : DefOk P WC.w K mg base 6 "are_alike" [] f_are_alike := by
  have := def_ok (P := P) (w := WC.w) (base := base) (k := 5) (m := m_are_alike) (io := none) (ro := false) (S := S_are_alike) C.g_are_alike C.d_are_alike sc_are_alike (by decide) (by simp only [S_are_alike]; decide) (by simp only [S_are_alike]; decide) (fun _ _ _ _ _ _ us hl => match us, hl with | [_, _], _ => rfl)
    (fun A outer s H E hr => by
      have tk := dX_takes (P := P) (w := WC.w) (K := K) (mg := mg) (base := base) (N := N_are_alike) (x := "are_alike") (st := s_are_alike) (A := A) (outer := outer) (s := s) (H := H) (E := E)
      have hp := d_own (P := P) (w := WC.w) (K := K) (mg := mg) (base := base) (N := N_are_alike) (x := "are_alike") (st := s_are_alike) (A := A) (outer := outer) (s := s) (H := H) (E := E)
      exact (ss_cons (by exact sx_expr (by exact sd_cal (D_need_piece C) tk (hr.mono (by omega)) (.inl rfl) rfl (by exact sa_cons (by exact sd_var 0) (sa_nil)))) (ss_cons (by exact sx_expr (by exact sd_cal (D_need_piece C) tk (hr.mono (by omega)) (.inl rfl) rfl (by exact sa_cons (by exact sd_var 1) (sa_nil)))) (ss_one (by exact sx_ret (by exact sd_cmp (op_gEq (room_hu hr)) (by exact sd_cal (D_least_in C) tk (hr.mono (by omega)) (.inl rfl) rfl (by exact sa_cons (by exact sd_var 0) (sa_nil))) (by exact sd_cal (D_least_in C) tk (hr.mono (by omega)) (.inl rfl) rfl (by exact sa_cons (by exact sd_var 1) (sa_nil)))))))))
  exact this
theorem D_symmetries (C : Facts K mg) : DefOk P WC.w K mg base 6 "symmetries" [] f_symmetries := by
  have := def_ok (P := P) (w := WC.w) (base := base) (k := 5) (m := m_symmetries) (io := none) (ro := false) (S := S_symmetries) C.g_symmetries C.d_symmetries sc_symmetries (by decide) (by simp only [S_symmetries]; decide) (by simp only [S_symmetries]; decide) (fun _ _ _ _ _ _ us hl => match us, hl with | [_], _ => rfl)
    (fun A outer s H E hr => by
      have tk := dX_takes (P := P) (w := WC.w) (K := K) (mg := mg) (base := base) (N := N_symmetries) (x := "symmetries") (st := s_symmetries) (A := A) (outer := outer) (s := s) (H := H) (E := E)
      have hp := d_own (P := P) (w := WC.w) (K := K) (mg := mg) (base := base) (N := N_symmetries) (x := "symmetries") (st := s_symmetries) (A := A) (outer := outer) (s := s) (H := H) (E := E)
      exact (ss_cons (by exact sx_expr (by exact sd_cal (D_need_piece C) tk (hr.mono (by omega)) (.inl rfl) rfl (by exact sa_cons (by exact sd_var 0) (sa_nil)))) (ss_cons (by exact sx_set 1 sc_symmetries.nd (by exact sd_cal (D_placed_in C) tk (hr.mono (by omega)) (.inl rfl) rfl (by exact sa_cons (by exact sd_var 0) (sa_nil)))) (ss_one (by exact sx_ret (by exact sd_callTy call_gTuple rfl C.b_tuple boot_tuple (by exact sa_cons (by exact sd_of (by exact so_callB (call_gSorted rfl (room_hu hr)) rfl C.b_sorted boot_sorted (by exact sa_cons (by exact sd_of (by exact so_comp (own := [("turns", 2), ("is_mirrored", 3), ("cells", 4)]) rfl sc_symmetries.nd (by exact sj_seq (by exact sd_cal (D_forms_of C) tk (hr.mono (by omega)) (.inl rfl) rfl (by exact sa_cons (by exact sd_var 0) (sa_nil)))) (blkOk_by (N := N_symmetries) (sc := defScope s_symmetries) (own := [("turns", 2), ("is_mirrored", 3), ("cells", 4)]) (by decide +kernel)) (fun _ _ _ _ _ => by exact (by exact sg_tup rfl (sg_cons (by exact sg_name 2 sc_symmetries.nd) (sg_cons (by exact sg_name 3 sc_symmetries.nd) (sg_cons (by exact sg_name 4 sc_symmetries.nd) (sg_nil)))))) (fun _ _ _ _ _ => by exact (sc_one (by exact st_cmp (op_gEq (room_hu hr)) (by exact sd_var 4) (by exact sd_var 1)))) (fun _ _ _ _ _ => by exact (by exact sd_tup (by exact sa_cons (by exact sd_var 2) (sa_cons (by exact sd_var 3) (sa_nil))))))) (sa_nil)))) (sa_nil))))))))
  exact this
theorem D__law_cup (C : Facts K mg) : DefOk P WC.w K mg base 1 "_law_cup" [] f__law_cup := by
  have := def_ok (P := P) (w := WC.w) (base := base) (k := 0) (m := m__law_cup) (io := none) (ro := true) (S := S__law_cup) C.g__law_cup C.d__law_cup sc__law_cup (by decide) (by simp only [S__law_cup]; decide) (by simp only [S__law_cup]; decide) (fun _ _ _ _ _ _ us hl => match us, hl with | [_], _ => rfl)
    (fun A outer s H E hr => by
      have tk := dX_takes (P := P) (w := WC.w) (K := K) (mg := mg) (base := base) (N := N__law_cup) (x := "_law_cup") (st := s__law_cup) (A := A) (outer := outer) (s := s) (H := H) (E := E)
      have hp := d_own (P := P) (w := WC.w) (K := K) (mg := mg) (base := base) (N := N__law_cup) (x := "_law_cup") (st := s__law_cup) (A := A) (outer := outer) (s := s) (H := H) (E := E)
      exact (ss_cons (by exact sx_set 1 sc__law_cup.nd (by exact sd_callB call_gAbs rfl C.b_abs boot_abs (by exact sa_cons (by exact sd_ix (room_hu hr) (by exact sd_bin op_gAdd (by exact sd_of (by exact so_callTy (call_gList rfl) rfl C.b_list boot_list (by exact sa_cons (by exact sd_var 0) (sa_nil)))) (by exact sd_of (by exact so_lst (by exact sa_cons (by exact sd_int) (sa_nil))))) (by exact sd_int)) (sa_nil)))) (ss_one (by exact sx_reto (by exact so_lst (by exact sa_cons (by exact sd_if (by exact st_cmp (op_gGe (room_hu hr)) (by exact sd_var 1) (by exact sd_bin op_gPow (by exact sd_int) (by exact sd_int))) (by exact sd_bin op_gFdiv (by exact sd_var 1) (by exact sd_int)) (by exact sd_int)) (sa_cons (by exact sd_bin op_gAdd (by exact sd_bin op_gMod (by exact sd_callTy call_gInt rfl C.b_int boot_int (by exact sa_cons (by exact sd_bin op_gAdd (by exact sd_bin op_gMul (by exact sd_var 1) (by exact sd_int)) (by exact sd_int)) (sa_nil))) (by exact sd_int)) (by exact sd_int)) (sa_nil))))))))
  exact this
theorem D__law_roll (C : Facts K mg) : DefOk P WC.w K mg base 1 "_law_roll" [] f__law_roll := by
  have := def_ok (P := P) (w := WC.w) (base := base) (k := 0) (m := m__law_roll) (io := (some 0)) (ro := false) (S := S__law_roll) C.g__law_roll C.d__law_roll sc__law_roll (by decide) (by simp only [S__law_roll]; decide) (by simp only [S__law_roll]; decide) (fun _ _ _ _ _ _ us hl => match us, hl with | [_, _], _ => rfl)
    (fun A outer s H E hr => by
      have tk := dX_takes (P := P) (w := WC.w) (K := K) (mg := mg) (base := base) (N := N__law_roll) (x := "_law_roll") (st := s__law_roll) (A := A) (outer := outer) (s := s) (H := H) (E := E)
      have hp := d_own (P := P) (w := WC.w) (K := K) (mg := mg) (base := base) (N := N__law_roll) (x := "_law_roll") (st := s__law_roll) (A := A) (outer := outer) (s := s) (H := H) (E := E)
      exact (ss_cons (by exact sx_if (by exact st_cmp (op_gGt (room_hu hr)) (by exact sd_ix (room_hu hr) (by exact sd_own 0) (by exact sd_int)) (by exact sd_int)) (ss_cons (by exact sx_set 3 sc__law_roll.nd (by exact sd_bin op_gMod (by exact sd_callTy call_gInt rfl C.b_int boot_int (by exact sa_cons (by exact sd_ix (room_hu hr) (by exact sd_own 0) (by exact sd_int)) (sa_nil))) (by exact sd_var 1))) (ss_cons (by exact sx_setix (room_hu hr) 0 (by exact sd_bin op_gFdiv (by exact sd_ix (room_hu hr) (by exact sd_own 0) (by exact sd_int)) (by exact sd_var 1)) (by exact sd_int)) (ss_one (by exact sx_ret (by exact sd_var 3))))) (ss_nil)) (ss_cons (by exact sx_setix (room_hu hr) 0 (by exact sd_bin op_gMod (by exact sd_callTy call_gInt rfl C.b_int boot_int (by exact sa_cons (by exact sd_bin op_gAdd (by exact sd_bin op_gMul (by exact sd_ix (room_hu hr) (by exact sd_own 0) (by exact sd_int)) (by exact sd_int)) (by exact sd_int)) (sa_nil))) (by exact sd_int)) (by exact sd_int)) (ss_cons (by exact sx_set 2 sc__law_roll.nd (by exact sd_bin op_gMod (by exact sd_callTy call_gInt rfl C.b_int boot_int (by exact sa_cons (by exact sd_bin op_gMul (by exact sd_ix (room_hu hr) (by exact sd_own 0) (by exact sd_int)) (by exact sd_bin op_gAdd (by exact sd_ix (room_hu hr) (by exact sd_own 0) (by exact sd_int)) (by exact sd_int))) (sa_nil))) (by exact sd_int))) (ss_one (by exact sx_ret (by exact sd_bin op_gMod (by exact sd_callTy call_gInt rfl C.b_int boot_int (by exact sa_cons (by exact sd_bin op_gFdiv (by exact sd_var 2) (by exact sd_int)) (sa_nil))) (by exact sd_var 1))))))))
  exact this
theorem D__law_some (C : Facts K mg) : DefOk P WC.w K mg base 2 "_law_some" [] f__law_some := by
  have := def_ok (P := P) (w := WC.w) (base := base) (k := 1) (m := m__law_some) (io := (some 0)) (ro := false) (S := S__law_some) C.g__law_some C.d__law_some sc__law_some (by decide) (by simp only [S__law_some]; decide) (by simp only [S__law_some]; decide) (fun _ _ _ _ _ _ us hl => match us, hl with | [_, _], _ => rfl)
    (fun A outer s H E hr => by
      have tk := dX_takes (P := P) (w := WC.w) (K := K) (mg := mg) (base := base) (N := N__law_some) (x := "_law_some") (st := s__law_some) (A := A) (outer := outer) (s := s) (H := H) (E := E)
      have hp := d_own (P := P) (w := WC.w) (K := K) (mg := mg) (base := base) (N := N__law_some) (x := "_law_some") (st := s__law_some) (A := A) (outer := outer) (s := s) (H := H) (E := E)
      exact (ss_one (by exact sx_ret (by exact sd_ix (room_hu hr) (by exact sd_var 1) (by exact sd_cal (D__law_roll C) tk (hr.mono (by omega)) (.inl rfl) rfl (by exact sa_cons (by exact sd_own 0) (sa_cons (by exact sd_callB call_gLen rfl C.b_len boot_len (by exact sa_cons (by exact sd_var 1) (sa_nil))) (sa_nil))))))))
  exact this
theorem D__law_sort (C : Facts K mg) : DefOk P WC.w K mg base 1 "_law_sort" [] f__law_sort := by
  have := def_ok (P := P) (w := WC.w) (base := base) (k := 0) (m := m__law_sort) (io := none) (ro := false) (S := S__law_sort) C.g__law_sort C.d__law_sort sc__law_sort (by decide) (by simp only [S__law_sort]; decide) (by simp only [S__law_sort]; decide) (fun _ _ _ _ _ _ us hl => match us, hl with | [_], _ => rfl)
    (fun A outer s H E hr => by
      have tk := dX_takes (P := P) (w := WC.w) (K := K) (mg := mg) (base := base) (N := N__law_sort) (x := "_law_sort") (st := s__law_sort) (A := A) (outer := outer) (s := s) (H := H) (E := E)
      have hp := d_own (P := P) (w := WC.w) (K := K) (mg := mg) (base := base) (N := N__law_sort) (x := "_law_sort") (st := s__law_sort) (A := A) (outer := outer) (s := s) (H := H) (E := E)
      exact (ss_cons (by exact sx_if (by exact pt_bool (sw_or (by exact st_cmp (op_gIs) (by exact sd_var 0) (by exact sd_none)) (sw_or1 (by exact st_tru (by exact sd_isa "bool" rfl C.b_isinstance rfl C.b_bool boot_bool (by exact sd_var 0)))))) (ss_one (by exact sx_ret (by exact sd_if (by exact st_cmp (op_gIs) (by exact sd_var 0) (by exact sd_none)) (by exact sd_int) (by exact sd_int)))) (ss_nil)) (ss_cons (by exact sx_if (by exact pt_bool (sw_or (by exact st_tru (by exact sd_isa "int" rfl C.b_isinstance rfl C.b_int boot_int (by exact sd_var 0))) (sw_or1 (by exact st_tru (by exact sd_isa "str" rfl C.b_isinstance rfl C.b_str boot_str (by exact sd_var 0)))))) (ss_one (by exact sx_ret (by exact sd_if (by exact st_tru (by exact sd_isa "int" rfl C.b_isinstance rfl C.b_int boot_int (by exact sd_var 0))) (by exact sd_int) (by exact sd_int)))) (ss_nil)) (ss_one (by exact sx_ret (by exact sd_if (by exact st_tru (by exact sd_isa "tuple" rfl C.b_isinstance rfl C.b_tuple boot_tuple (by exact sd_var 0))) (by exact sd_int) (by exact sd_if (by exact st_tru (by exact sd_isa "list" rfl C.b_isinstance rfl C.b_list boot_list (by exact sd_var 0))) (by exact sd_int) (by exact sd_int))))))))
  exact this
theorem D__law_like (C : Facts K mg) : ∀ n : Nat, DefOk P WC.w K mg base (2 + n) "_law_like" [] (f__law_like n)
  | 0 => def_stuck C.g__law_like C.d__law_like (ps := ["one", "other"]) rfl (fun _ _ _ _ _ _ us hl => match us, hl with | [_, _], _ => rfl)
  | n + 1 => by
    have ih : DefOk P WC.w K mg base (2 + n) "_law_like" [] (f__law_like n) := D__law_like C n
    have := def_ok (k := 2 + n) (m := m__law_like (f__law_like n)) (io := none) (ro := false) (S := S__law_like) C.g__law_like C.d__law_like sc__law_like (by decide) (by decide) (by decide) (fun _ _ _ _ _ _ us hl => match us, hl with | [_, _], _ => rfl) (fun A outer s H E hr => by
      have tk := dX_takes (P := P) (w := WC.w) (K := K) (mg := mg) (base := base) (N := N__law_like) (x := "_law_like") (st := s__law_like) (A := A) (outer := outer) (s := s) (H := H) (E := E)
      have hp := d_own (P := P) (w := WC.w) (K := K) (mg := mg) (base := base) (N := N__law_like) (x := "_law_like") (st := s__law_like) (A := A) (outer := outer) (s := s) (H := H) (E := E)
      exact (ss_cons (by exact sx_set 2 sc__law_like.nd (by exact sd_cal (D__law_sort C) tk (hr.mono (by omega)) (.inl rfl) rfl (by exact sa_cons (by exact sd_var 1) (sa_nil)))) (ss_cons (by exact sx_if (by exact pt_bool (sw_or (by exact st_cmp (op_gNe (room_hu hr)) (by exact sd_cal (D__law_sort C) tk (hr.mono (by omega)) (.inl rfl) rfl (by exact sa_cons (by exact sd_var 0) (sa_nil))) (by exact sd_var 2)) (sw_or1 (by exact st_cmp (op_gEq (room_hu hr)) (by exact sd_var 2) (by exact sd_int))))) (ss_one (by exact sx_ret (by exact sd_bool))) (ss_nil)) (ss_cons (by exact sx_if (by exact st_cmp (op_gIn (room_hu hr)) (by exact sd_var 2) (by exact sd_tup (by exact sa_cons (by exact sd_int) (sa_cons (by exact sd_int) (sa_nil))))) (ss_one (by exact sx_ret (by exact sd_and (by exact sd_cmp (op_gEq (room_hu hr)) (by exact sd_callB call_gLen rfl C.b_len boot_len (by exact sa_cons (by exact sd_var 0) (sa_nil))) (by exact sd_callB call_gLen rfl C.b_len boot_len (by exact sa_cons (by exact sd_var 1) (sa_nil)))) (sd_one (by exact sd_cmp (op_gEq (room_hu hr)) (by exact sd_of (by exact so_comp (own := [("first", 3), ("second", 4)]) rfl sc__law_like.nd (by exact sj_zip rfl C.b_zip (by exact sa_cons (by exact sd_var 0) (sa_cons (by exact sd_var 1) (sa_nil)))) (blkOk_by (N := N__law_like) (sc := defScope s__law_like) (own := [("first", 3), ("second", 4)]) (by decide +kernel)) (fun _ _ _ _ _ => by exact (by exact sg_tup rfl (sg_cons (by exact sg_name 3 sc__law_like.nd) (sg_cons (by exact sg_name 4 sc__law_like.nd) (sg_nil))))) (fun _ _ _ _ _ => by exact (sc_one (by exact st_not (by exact st_tru (by exact sd_cal (hro := by cases n <;> rfl) ih takesN0 hr (.inl rfl) rfl (by exact sa_cons (by exact sd_var 3) (sa_cons (by exact sd_var 4) (sa_nil)))))))) (fun _ _ _ _ _ => by exact (by exact sd_int)))) (by exact sd_of (by exact so_lst (by exact sa_nil)))))))) (ss_nil)) (ss_one (by exact sx_ret (by exact sd_cmp (op_gEq (room_hu hr)) (by exact sd_var 0) (by exact sd_var 1))))))))
    exact this
theorem D__law_stays (C : Facts K mg) : DefOk P WC.w K mg base 1 "_law_stays" [] f__law_stays := by
  have := def_ok (P := P) (w := WC.w) (base := base) (k := 0) (m := m__law_stays) (io := none) (ro := false) (S := S__law_stays) C.g__law_stays C.d__law_stays sc__law_stays (by decide) (by simp only [S__law_stays]; decide) (by simp only [S__law_stays]; decide) (fun _ _ _ _ _ _ us hl => match us, hl with | [_, _], _ => rfl)
    (fun A outer s H E hr => by
      have tk := dX_takes (P := P) (w := WC.w) (K := K) (mg := mg) (base := base) (N := N__law_stays) (x := "_law_stays") (st := s__law_stays) (A := A) (outer := outer) (s := s) (H := H) (E := E)
      have hp := d_own (P := P) (w := WC.w) (K := K) (mg := mg) (base := base) (N := N__law_stays) (x := "_law_stays") (st := s__law_stays) (A := A) (outer := outer) (s := s) (H := H) (E := E)
      exact (ss_cons (by exact sx_unp (by exact sd_var 1) (by exact sg_tup rfl (sg_cons (by exact sg_name 2 sc__law_stays.nd) (sg_cons (by exact sg_name 3 sc__law_stays.nd) (sg_nil))))) (ss_cons (by exact sx_set 4 sc__law_stays.nd (by exact sd_of (by exact so_lst (by exact sa_cons (by exact sd_tup (by exact sa_cons (by exact sd_bin op_gAdd (by exact sd_var 2) (by exact sd_int)) (sa_cons (by exact sd_var 3) (sa_nil)))) (sa_cons (by exact sd_tup (by exact sa_cons (by exact sd_bin op_gAdd (by exact sd_var 2) (by exact sd_int)) (sa_cons (by exact sd_bin op_gAdd (by exact sd_var 3) (by exact sd_int)) (sa_nil)))) (sa_cons (by exact sd_tup (by exact sa_cons (by exact sd_var 2) (sa_cons (by exact sd_bin op_gAdd (by exact sd_var 3) (by exact sd_int)) (sa_nil)))) (sa_cons (by exact sd_tup (by exact sa_cons (by exact sd_bin op_gSub (by exact sd_var 2) (by exact sd_int)) (sa_cons (by exact sd_bin op_gAdd (by exact sd_var 3) (by exact sd_int)) (sa_nil)))) (sa_cons (by exact sd_tup (by exact sa_cons (by exact sd_bin op_gSub (by exact sd_var 2) (by exact sd_int)) (sa_cons (by exact sd_var 3) (sa_nil)))) (sa_cons (by exact sd_tup (by exact sa_cons (by exact sd_bin op_gSub (by exact sd_var 2) (by exact sd_int)) (sa_cons (by exact sd_bin op_gSub (by exact sd_var 3) (by exact sd_int)) (sa_nil)))) (sa_cons (by exact sd_tup (by exact sa_cons (by exact sd_var 2) (sa_cons (by exact sd_bin op_gSub (by exact sd_var 3) (by exact sd_int)) (sa_nil)))) (sa_cons (by exact sd_tup (by exact sa_cons (by exact sd_bin op_gAdd (by exact sd_var 2) (by exact sd_int)) (sa_cons (by exact sd_bin op_gSub (by exact sd_var 3) (by exact sd_int)) (sa_nil)))) (sa_nil)))))))))))) (ss_cons (by exact sx_set 5 sc__law_stays.nd (by exact sd_of (by exact so_comp (own := [("one", 8)]) rfl sc__law_stays.nd (by exact sj_seq (by exact sd_var 4)) (blkOk_by (N := N__law_stays) (sc := defScope s__law_stays) (own := [("one", 8)]) (by decide +kernel)) (fun _ _ _ _ _ => by exact (by exact sg_name 8 sc__law_stays.nd)) (fun _ _ _ _ _ => by exact (sc_nil)) (fun _ _ _ _ _ => by exact (by exact sd_cmp (op_gIn (room_hu hr)) (by exact sd_var 8) (by exact sd_var 0)))))) (ss_cons (by exact sx_set 6 sc__law_stays.nd (by exact sd_callB call_gLen rfl C.b_len boot_len (by exact sa_cons (by exact sd_of (by exact so_comp (own := [("one", 8), ("other", 10)]) rfl sc__law_stays.nd (by exact sj_zip rfl C.b_zip (by exact sa_cons (by exact sd_var 5) (sa_cons (by exact sd_bin op_gAdd (by exact sd_sl (by exact sd_var 5) (sp_some (by exact sd_int)) (sp_none)) (by exact sd_sl (by exact sd_var 5) (sp_none) (sp_some (by exact sd_int)))) (sa_nil)))) (blkOk_by (N := N__law_stays) (sc := defScope s__law_stays) (own := [("one", 8), ("other", 10)]) (by decide +kernel)) (fun _ _ _ _ _ => by exact (by exact sg_tup rfl (sg_cons (by exact sg_name 8 sc__law_stays.nd) (sg_cons (by exact sg_name 10 sc__law_stays.nd) (sg_nil))))) (fun _ _ _ _ _ => by exact (sc_one (by exact st_cmp (op_gNe (room_hu hr)) (by exact sd_var 8) (by exact sd_var 10)))) (fun _ _ _ _ _ => by exact (by exact sd_int)))) (sa_nil)))) (ss_cons (by exact sx_comp 7 (own := [("at", 9)]) rfl sc__law_stays.nd (by exact sj_seq (by exact sd_tup (by exact sa_cons (by exact sd_int) (sa_cons (by exact sd_int) (sa_cons (by exact sd_int) (sa_cons (by exact sd_int) (sa_nil))))))) (blkOk_by (N := N__law_stays) (sc := defScope s__law_stays) (own := [("at", 9)]) (by decide +kernel)) (fun _ _ _ _ _ => by exact (by exact sg_name 9 sc__law_stays.nd)) (fun _ _ _ _ _ => by exact (sc_one (by exact pt_bool (sw_and (by exact st_tru (by exact sd_ix (room_hu hr) (by exact sd_var 5) (by exact sd_var 9))) (sw_and (by exact st_not (by exact st_tru (by exact sd_ix (room_hu hr) (by exact sd_var 5) (by exact sd_bin op_gSub (by exact sd_var 9) (by exact sd_int))))) (sw_and1 (by exact st_not (by exact st_tru (by exact sd_ix (room_hu hr) (by exact sd_var 5) (by exact sd_bin op_gMod (by exact sd_callTy call_gInt rfl C.b_int boot_int (by exact sa_cons (by exact sd_bin op_gAdd (by exact sd_var 9) (by exact sd_int)) (sa_nil))) (by exact sd_int))))))))))) (fun _ _ _ _ _ => by exact (by exact sd_var 9))) (ss_one (by exact sx_ret (by exact sd_and (by exact sd_cmp (op_gIn (room_hu hr)) (by exact sd_var 6) (by exact sd_tup (by exact sa_cons (by exact sd_int) (sa_cons (by exact sd_int) (sa_nil))))) (sd_one (by exact sd_cmp (op_gEq (room_hu hr)) (by exact sd_var 7) (by exact sd_of (by exact so_lst (by exact sa_nil))))))))))))))
  exact this
theorem D__law_grown (C : Facts K mg) : DefOk P WC.w K mg base 3 "_law_grown" [] f__law_grown := by
  have := def_ok (P := P) (w := WC.w) (base := base) (k := 2) (m := m__law_grown) (io := (some 0)) (ro := false) (S := S__law_grown) C.g__law_grown C.d__law_grown sc__law_grown (by decide) (by simp only [S__law_grown]; decide) (by simp only [S__law_grown]; decide) (fun _ _ _ _ _ _ us hl => match us, hl with | [_, _], _ => rfl)
    (fun A outer s H E hr => by
      have tk := dX_takes (P := P) (w := WC.w) (K := K) (mg := mg) (base := base) (N := N__law_grown) (x := "_law_grown") (st := s__law_grown) (A := A) (outer := outer) (s := s) (H := H) (E := E)
      have hp := d_own (P := P) (w := WC.w) (K := K) (mg := mg) (base := base) (N := N__law_grown) (x := "_law_grown") (st := s__law_grown) (A := A) (outer := outer) (s := s) (H := H) (E := E)
      exact (ss_cons (by exact sx_seto 2 sc__law_grown.nd (by exact so_lst (by exact sa_cons (by exact sd_tup (by exact sa_cons (by exact sd_cal (D__law_some C) tk (hr.mono (by omega)) (.inl rfl) rfl (by exact sa_cons (by exact sd_own 0) (sa_cons (by exact sd_of (by exact so_lst (by exact sa_cons (by exact sd_int) (sa_cons (by exact sd_int) (sa_cons (by exact sd_int) (sa_cons (by exact sd_un un_gNeg (by exact sd_int)) (sa_cons (by exact sd_un un_gNeg (by exact sd_int)) (sa_nil)))))))) (sa_nil)))) (sa_cons (by exact sd_cal (D__law_some C) tk (hr.mono (by omega)) (.inl rfl) rfl (by exact sa_cons (by exact sd_own 0) (sa_cons (by exact sd_of (by exact so_lst (by exact sa_cons (by exact sd_int) (sa_cons (by exact sd_int) (sa_cons (by exact sd_int) (sa_cons (by exact sd_un un_gNeg (by exact sd_int)) (sa_nil))))))) (sa_nil)))) (sa_nil)))) (sa_nil)))) (ss_cons (by exact sx_for hp rfl (by exact sj_rng1 rfl C.b_range (by exact sa_cons (by exact sd_bin op_gSub (by exact sd_var 1) (by exact sd_int)) (sa_nil))) (by exact sg_name 3 sc__law_grown.nd) (ss_cons (by exact sx_unp (by exact sd_cal (D__law_some C) tk (hr.mono (by omega)) (.inl rfl) rfl (by exact sa_cons (by exact sd_own 0) (sa_cons (by exact sd_own 2) (sa_nil)))) (by exact sg_tup rfl (sg_cons (by exact sg_name 4 sc__law_grown.nd) (sg_cons (by exact sg_name 5 sc__law_grown.nd) (sg_nil))))) (ss_cons (by exact sx_set 6 sc__law_grown.nd (by exact sd_cal (D__law_some C) tk (hr.mono (by omega)) (.inl rfl) rfl (by exact sa_cons (by exact sd_own 0) (sa_cons (by exact sd_of (by exact so_lst (by exact sa_cons (by exact sd_tup (by exact sa_cons (by exact sd_bin op_gAdd (by exact sd_var 4) (by exact sd_int)) (sa_cons (by exact sd_var 5) (sa_nil)))) (sa_cons (by exact sd_tup (by exact sa_cons (by exact sd_bin op_gSub (by exact sd_var 4) (by exact sd_int)) (sa_cons (by exact sd_var 5) (sa_nil)))) (sa_cons (by exact sd_tup (by exact sa_cons (by exact sd_var 4) (sa_cons (by exact sd_bin op_gAdd (by exact sd_var 5) (by exact sd_int)) (sa_nil)))) (sa_cons (by exact sd_tup (by exact sa_cons (by exact sd_var 4) (sa_cons (by exact sd_bin op_gSub (by exact sd_var 5) (by exact sd_int)) (sa_nil)))) (sa_nil))))))) (sa_nil))))) (ss_one (by exact sx_if (by exact pt_bool (sw_and (by exact st_cmp (op_gNotIn (room_hu hr)) (by exact sd_var 6) (by exact sd_own 2)) (sw_and1 (by exact st_tru (by exact sd_cal (D__law_stays C) tk (hr.mono (by omega)) (.inl rfl) rfl (by exact sa_cons (by exact sd_own 2) (sa_cons (by exact sd_var 6) (sa_nil)))))))) (ss_one (by exact sx_app 2 (by exact sd_var 6))) (ss_nil)))))) (ss_one (by exact sx_ret (by exact sd_callTy call_gTuple rfl C.b_tuple boot_tuple (by exact sa_cons (by exact sd_of (by exact so_callB (call_gSorted rfl (room_hu hr)) rfl C.b_sorted boot_sorted (by exact sa_cons (by exact sd_own 2) (sa_nil)))) (sa_nil))))))))
  exact this
theorem D__law_placed (C : Facts K mg) : DefOk P WC.w K mg base 1 "_law_placed" [] f__law_placed := by
  have := def_ok (P := P) (w := WC.w) (base := base) (k := 0) (m := m__law_placed) (io := none) (ro := false) (S := S__law_placed) C.g__law_placed C.d__law_placed sc__law_placed (by decide) (by simp only [S__law_placed]; decide) (by simp only [S__law_placed]; decide) (fun _ _ _ _ _ _ us hl => match us, hl with | [_], _ => rfl)
    (fun A outer s H E hr => by
      have tk := dX_takes (P := P) (w := WC.w) (K := K) (mg := mg) (base := base) (N := N__law_placed) (x := "_law_placed") (st := s__law_placed) (A := A) (outer := outer) (s := s) (H := H) (E := E)
      have hp := d_own (P := P) (w := WC.w) (K := K) (mg := mg) (base := base) (N := N__law_placed) (x := "_law_placed") (st := s__law_placed) (A := A) (outer := outer) (s := s) (H := H) (E := E)
      exact (ss_cons (by exact sx_upar [1, 2] rfl (si_v (by exact sd_callB (call_gMin rfl (room_hu hr)) rfl C.b_min boot_min (by exact sa_cons (by exact sd_of (by exact so_comp (own := [("x", 3), ("y", 4)]) rfl sc__law_placed.nd (by exact sj_seq (by exact sd_var 0)) (blkOk_by (N := N__law_placed) (sc := defScope s__law_placed) (own := [("x", 3), ("y", 4)]) (by decide +kernel)) (fun _ _ _ _ _ => by exact (by exact sg_tup rfl (sg_cons (by exact sg_name 3 sc__law_placed.nd) (sg_cons (by exact sg_name 4 sc__law_placed.nd) (sg_nil))))) (fun _ _ _ _ _ => by exact (sc_nil)) (fun _ _ _ _ _ => by exact (by exact sd_var 3)))) (sa_nil))) (si_v (by exact sd_callB (call_gMin rfl (room_hu hr)) rfl C.b_min boot_min (by exact sa_cons (by exact sd_of (by exact so_comp (own := [("x", 3), ("y", 4)]) rfl sc__law_placed.nd (by exact sj_seq (by exact sd_var 0)) (blkOk_by (N := N__law_placed) (sc := defScope s__law_placed) (own := [("x", 3), ("y", 4)]) (by decide +kernel)) (fun _ _ _ _ _ => by exact (by exact sg_tup rfl (sg_cons (by exact sg_name 3 sc__law_placed.nd) (sg_cons (by exact sg_name 4 sc__law_placed.nd) (sg_nil))))) (fun _ _ _ _ _ => by exact (sc_nil)) (fun _ _ _ _ _ => by exact (by exact sd_var 4)))) (sa_nil))) (si_nil))) (sn_cons 1 sc__law_placed.nd (sn_cons 2 sc__law_placed.nd (sn_nil)))) (ss_one (by exact sx_ret (by exact sd_callTy call_gTuple rfl C.b_tuple boot_tuple (by exact sa_cons (by exact sd_of (by exact so_callB (call_gSorted rfl (room_hu hr)) rfl C.b_sorted boot_sorted (by exact sa_cons (by exact sd_of (by exact so_comp (own := [("x", 3), ("y", 4)]) rfl sc__law_placed.nd (by exact sj_seq (by exact sd_var 0)) (blkOk_by (N := N__law_placed) (sc := defScope s__law_placed) (own := [("x", 3), ("y", 4)]) (by decide +kernel)) (fun _ _ _ _ _ => by exact (by exact sg_tup rfl (sg_cons (by exact sg_name 3 sc__law_placed.nd) (sg_cons (by exact sg_name 4 sc__law_placed.nd) (sg_nil))))) (fun _ _ _ _ _ => by exact (sc_nil)) (fun _ _ _ _ _ => by exact (by exact sd_tup (by exact sa_cons (by exact sd_bin op_gSub (by exact sd_var 3) (by exact sd_var 1)) (sa_cons (by exact sd_bin op_gSub (by exact sd_var 4) (by exact sd_var 2)) (sa_nil))))))) (sa_nil)))) (sa_nil)))))))
  exact this
theorem D__law_turned (C : Facts K mg) : DefOk P WC.w K mg base 2 "_law_turned" [] f__law_turned := by
  have := def_ok (P := P) (w := WC.w) (base := base) (k := 1) (m := m__law_turned) (io := none) (ro := false) (S := S__law_turned) C.g__law_turned C.d__law_turned sc__law_turned (by decide) (by simp only [S__law_turned]; decide) (by simp only [S__law_turned]; decide) (fun _ _ _ _ _ _ us hl => match us, hl with | [_], _ => rfl)
    (fun A outer s H E hr => by
      have tk := dX_takes (P := P) (w := WC.w) (K := K) (mg := mg) (base := base) (N := N__law_turned) (x := "_law_turned") (st := s__law_turned) (A := A) (outer := outer) (s := s) (H := H) (E := E)
      have hp := d_own (P := P) (w := WC.w) (K := K) (mg := mg) (base := base) (N := N__law_turned) (x := "_law_turned") (st := s__law_turned) (A := A) (outer := outer) (s := s) (H := H) (E := E)
      exact (ss_one (by exact sx_ret (by exact sd_cal (D__law_placed C) tk (hr.mono (by omega)) (.inl rfl) rfl (by exact sa_cons (by exact sd_of (by exact so_comp (own := [("x", 1), ("y", 2)]) rfl sc__law_turned.nd (by exact sj_seq (by exact sd_var 0)) (blkOk_by (N := N__law_turned) (sc := defScope s__law_turned) (own := [("x", 1), ("y", 2)]) (by decide +kernel)) (fun _ _ _ _ _ => by exact (by exact sg_tup rfl (sg_cons (by exact sg_name 1 sc__law_turned.nd) (sg_cons (by exact sg_name 2 sc__law_turned.nd) (sg_nil))))) (fun _ _ _ _ _ => by exact (sc_nil)) (fun _ _ _ _ _ => by exact (by exact sd_tup (by exact sa_cons (by exact sd_un un_gNeg (by exact sd_var 2)) (sa_cons (by exact sd_var 1) (sa_nil))))))) (sa_nil))))))
  exact this
theorem D__law_mirrored (C : Facts K mg) : DefOk P WC.w K mg base 2 "_law_mirrored" [] f__law_mirrored := by
  have := def_ok (P := P) (w := WC.w) (base := base) (k := 1) (m := m__law_mirrored) (io := none) (ro := false) (S := S__law_mirrored) C.g__law_mirrored C.d__law_mirrored sc__law_mirrored (by decide) (by simp only [S__law_mirrored]; decide) (by simp only [S__law_mirrored]; decide) (fun _ _ _ _ _ _ us hl => match us, hl with | [_], _ => rfl)
    (fun A outer s H E hr => by
      have tk := dX_takes (P := P) (w := WC.w) (K := K) (mg := mg) (base := base) (N := N__law_mirrored) (x := "_law_mirrored") (st := s__law_mirrored) (A := A) (outer := outer) (s := s) (H := H) (E := E)
      have hp := d_own (P := P) (w := WC.w) (K := K) (mg := mg) (base := base) (N := N__law_mirrored) (x := "_law_mirrored") (st := s__law_mirrored) (A := A) (outer := outer) (s := s) (H := H) (E := E)
      exact (ss_one (by exact sx_ret (by exact sd_cal (D__law_placed C) tk (hr.mono (by omega)) (.inl rfl) rfl (by exact sa_cons (by exact sd_of (by exact so_comp (own := [("x", 1), ("y", 2)]) rfl sc__law_mirrored.nd (by exact sj_seq (by exact sd_var 0)) (blkOk_by (N := N__law_mirrored) (sc := defScope s__law_mirrored) (own := [("x", 1), ("y", 2)]) (by decide +kernel)) (fun _ _ _ _ _ => by exact (by exact sg_tup rfl (sg_cons (by exact sg_name 1 sc__law_mirrored.nd) (sg_cons (by exact sg_name 2 sc__law_mirrored.nd) (sg_nil))))) (fun _ _ _ _ _ => by exact (sc_nil)) (fun _ _ _ _ _ => by exact (by exact sd_tup (by exact sa_cons (by exact sd_un un_gNeg (by exact sd_var 1)) (sa_cons (by exact sd_var 2) (sa_nil))))))) (sa_nil))))))
  exact this
theorem D__law_stairs (C : Facts K mg) : DefOk P WC.w K mg base 1 "_law_stairs" [] f__law_stairs := by
  have := def_ok (P := P) (w := WC.w) (base := base) (k := 0) (m := m__law_stairs) (io := none) (ro := false) (S := S__law_stairs) C.g__law_stairs C.d__law_stairs sc__law_stairs (by decide) (by simp only [S__law_stairs]; decide) (by simp only [S__law_stairs]; decide) (fun _ _ _ _ _ _ us hl => match us, hl with | [_], _ => rfl)
    (fun A outer s H E hr => by
      have tk := dX_takes (P := P) (w := WC.w) (K := K) (mg := mg) (base := base) (N := N__law_stairs) (x := "_law_stairs") (st := s__law_stairs) (A := A) (outer := outer) (s := s) (H := H) (E := E)
      have hp := d_own (P := P) (w := WC.w) (K := K) (mg := mg) (base := base) (N := N__law_stairs) (x := "_law_stairs") (st := s__law_stairs) (A := A) (outer := outer) (s := s) (H := H) (E := E)
      exact (ss_one (by exact sx_ret (by exact sd_callTy call_gTuple rfl C.b_tuple boot_tuple (by exact sa_cons (by exact sd_of (by exact so_callB (call_gSorted rfl (room_hu hr)) rfl C.b_sorted boot_sorted (by exact sa_cons (by exact sd_of (by exact so_comp (own := [("at", 1)]) rfl sc__law_stairs.nd (by exact sj_rng1 rfl C.b_range (by exact sa_cons (by exact sd_var 0) (sa_nil))) (blkOk_by (N := N__law_stairs) (sc := defScope s__law_stairs) (own := [("at", 1)]) (by decide +kernel)) (fun _ _ _ _ _ => by exact (by exact sg_name 1 sc__law_stairs.nd)) (fun _ _ _ _ _ => by exact (sc_nil)) (fun _ _ _ _ _ => by exact (by exact sd_tup (by exact sa_cons (by exact sd_bin op_gFdiv (by exact sd_callTy call_gInt rfl C.b_int boot_int (by exact sa_cons (by exact sd_bin op_gAdd (by exact sd_var 1) (by exact sd_int)) (sa_nil))) (by exact sd_int)) (sa_cons (by exact sd_bin op_gFdiv (by exact sd_callTy call_gInt rfl C.b_int boot_int (by exact sa_cons (by exact sd_var 1) (sa_nil))) (by exact sd_int)) (sa_nil))))))) (sa_nil)))) (sa_nil))))))
  exact this
theorem hms_InvalidPiece (ad : Addr) : ∃ ev, ms__law_error ad "InvalidPiece" (ev0 5 1 ad) = .ok (.rt (.str "piece error"), ev) := by
  apply wordOf_ok
  simp [ms__law_error, ev0, sSeq, sSetO, sSet, sApp, sRet, oLst, aNil, aCons, vals, toVal, eTup, eC, eVar, eOwn, vCall, gets, RV.get, lift, gIsE, adD, fnD, isb, oComp, compL, iLst, iSeq, seqOf, bTup, bCons, bName, bNil, tTru, truD, noErr, wipeE, backE, vOf, vIf, tOf, vBin, lstOf, sizeLine_eq]
  all_goals rfl
theorem D__law_error (C : Facts K mg) : FailsOk P WC.w K mg base "_law_error" "call" "" wd := by
  obtain ⟨fd, Fd⟩ := C.d__law_error
  have hB := Fd.bindsN (ps := ["call"]) (fun _ _ _ _ _ _ us hl => match us, hl with | [_], _ => rfl)
  have hk := Fd.kp
  obtain ⟨oc, od, dV, kV, doc, pm, an, cdv, ct, osl, rfl, lk, hcd, _, _⟩ := Fd.ex
  refine ⟨⟨_, _, _, _, dV, kV, doc, pm, cdv, ct, oc, an, od, osl, N__law_error, C.g__law_error, hk, lk, hcd, hB, sc__law_error, rfl, .inl rfl, fun X q e1 e2 e3 e4 e5 => ?_⟩⟩
  subst e1 e3 e4 e5
  refine fails_gives (SG := S__law_error) (ie := 1) (ms := ms__law_error) (wd := wd) rfl C.g_TautError rfl (by decide) rfl rfl (by decide) (fun _ => rfl) rfl rfl ?hex ?hms ?hsu
  case hex =>
    intro c Dc w e1 e2
    unfold wd at e1
    split at e1
    · rename_i z; subst z; cases e1; cases (C.g_InvalidPiece.symm.trans e2); exact C.x_InvalidPiece
    cases e1
  case hms =>
    intro ad c w e1
    unfold wd at e1
    split at e1
    · rename_i z; subst z; cases e1; exact hms_InvalidPiece ad
    cases e1
  case hsu =>
    intro s H ad oe c Dc w pn e1 e2 hz hf hot hus
    unfold wd at e1
    split at e1
    · rename_i z; subst z; cases e1; cases (C.g_InvalidPiece.symm.trans e2)
      have hisE := call_isD (X := failX X N__law_error "_law_error" (defScope s__law_error) (He.ga X.K "_law_error") cdv s H) (a := ad) (pn := pn) (b := isb "InvalidPiece") C.i_InvalidPiece hz hf (by
      intro c f k k1 k2
      unfold isb at k1
      rw [if_pos rfl] at k1
      split at k1
      · rename_i z; subst z; cases k1; cases (C.g_InvalidPiece.symm.trans k2); exact C.k_InvalidPiece_CC_InvalidPiece
      cases k1)
      exact (ss_cons (by exact sx_set 2 sc__law_error.nd (by exact sd_of (by exact so_lst (by exact sa_cons (by exact sd_tup (by exact sa_cons (by exact sd_str) (sa_cons (by exact sd_callB hisE rfl C.b_isinstance boot_isinstance (sa_cons (by exact sd_var 1) (sa_cons (sd_fn rfl C.g_InvalidPiece) sa_nil))) (sa_nil)))) (sa_nil))))) (ss_one (by exact sx_ret (by exact sd_bin op_gAdd (by exact sd_join (by exact sd_str) (by exact sd_of (by exact so_compH (own := [("word", 3), ("good", 4)]) hot sc__law_error.nd (by exact sj_lstH (by exact sd_var 2)) (blkOk_by (N := N__law_error) (sc := defScope s__law_error) (own := [("word", 3), ("good", 4)]) (by decide +kernel)) (fun _ _ _ _ _ hq => by exact (by exact sg_tupH hq (sg_cons (by exact sg_name 3 sc__law_error.nd) (sg_cons (by exact sg_name 4 sc__law_error.nd) (sg_nil))))) (fun _ _ _ _ _ => by exact (sc_one (by exact st_tru (by exact sd_var 4)))) (fun _ _ _ _ _ => by exact (by exact sd_var 3))))) (by exact sd_str)))))
    cases e1
theorem D__law_forms (C : Facts K mg) : DefOk P WC.w K mg base 3 "_law_forms" [] f__law_forms := by
  have := def_ok (P := P) (w := WC.w) (base := base) (k := 2) (m := m__law_forms) (io := none) (ro := false) (S := S__law_forms) C.g__law_forms C.d__law_forms sc__law_forms (by decide) (by simp only [S__law_forms]; decide) (by simp only [S__law_forms]; decide) (fun _ _ _ _ _ _ us hl => match us, hl with | [_], _ => rfl)
    (fun A outer s H E hr => by
      have tk := dX_takes (P := P) (w := WC.w) (K := K) (mg := mg) (base := base) (N := N__law_forms) (x := "_law_forms") (st := s__law_forms) (A := A) (outer := outer) (s := s) (H := H) (E := E)
      have hp := d_own (P := P) (w := WC.w) (K := K) (mg := mg) (base := base) (N := N__law_forms) (x := "_law_forms") (st := s__law_forms) (A := A) (outer := outer) (s := s) (H := H) (E := E)
      exact (ss_cons (by exact sx_seto 1 sc__law_forms.nd (by exact so_lst (by exact sa_nil))) (ss_cons (by exact sx_for hp rfl (by exact sj_seq (by exact sd_tup (by exact sa_cons (by exact sd_bool) (sa_cons (by exact sd_bool) (sa_nil))))) (by exact sg_name 2 sc__law_forms.nd) (ss_cons (by exact sx_set 3 sc__law_forms.nd (by exact sd_if (by exact st_tru (by exact sd_var 2)) (by exact sd_cal (D__law_mirrored C) tk (hr.mono (by omega)) (.inl rfl) rfl (by exact sa_cons (by exact sd_var 0) (sa_nil))) (by exact sd_cal (D__law_placed C) tk (hr.mono (by omega)) (.inl rfl) rfl (by exact sa_cons (by exact sd_var 0) (sa_nil))))) (ss_one (by exact sx_for hp rfl (by exact sj_rng1 rfl C.b_range (by exact sa_cons (by exact sd_int) (sa_nil))) (by exact sg_name 4 sc__law_forms.nd) (ss_cons (by exact sx_app 1 (by exact sd_tup (by exact sa_cons (by exact sd_var 4) (sa_cons (by exact sd_var 2) (sa_cons (by exact sd_var 3) (sa_nil)))))) (ss_one (by exact sx_set 3 sc__law_forms.nd (by exact sd_cal (D__law_turned C) tk (hr.mono (by omega)) (.inl rfl) rfl (by exact sa_cons (by exact sd_var 3) (sa_nil)))))))))) (ss_one (by exact sx_ret (by exact sd_own 1))))))
  exact this
theorem D__law_right (C : Facts K mg) : DefOk P WC.w K mg base 11 "_law_right" [] f__law_right := by
  have := def_ok (P := P) (w := WC.w) (base := base) (k := 10) (m := m__law_right) (io := (some 0)) (ro := false) (S := S__law_right) C.g__law_right C.d__law_right sc__law_right (by decide) (by simp only [S__law_right]; decide) (by simp only [S__law_right]; decide) (fun _ _ _ _ _ _ us hl => match us, hl with | [_, _], _ => rfl)
    (fun A outer s H E hr => by
      have tk := dX_takes (P := P) (w := WC.w) (K := K) (mg := mg) (base := base) (N := N__law_right) (x := "_law_right") (st := s__law_right) (A := A) (outer := outer) (s := s) (H := H) (E := E)
      have hp := d_own (P := P) (w := WC.w) (K := K) (mg := mg) (base := base) (N := N__law_right) (x := "_law_right") (st := s__law_right) (A := A) (outer := outer) (s := s) (H := H) (E := E)
      exact (ss_cons (by exact sx_upar [2, 3] rfl (si_v (by exact sd_cal (D__law_forms C) tk (hr.mono (by omega)) (.inl rfl) rfl (by exact sa_cons (by exact sd_var 1) (sa_nil))) (si_v (by exact sd_cal (D__law_placed C) tk (hr.mono (by omega)) (.inl rfl) rfl (by exact sa_cons (by exact sd_var 1) (sa_nil))) (si_nil))) (sn_cons 2 sc__law_right.nd (sn_cons 3 sc__law_right.nd (sn_nil)))) (ss_cons (by exact sx_set 4 sc__law_right.nd (by exact sd_callTy call_gTuple rfl C.b_tuple boot_tuple (by exact sa_cons (by exact sd_of (by exact so_callB (call_gSorted rfl (room_hu hr)) rfl C.b_sorted boot_sorted (by exact sa_cons (by exact sd_of (by exact so_comp (own := [("turns", 6), ("is_mirrored", 7), ("cells", 8)]) rfl sc__law_right.nd (by exact sj_seq (by exact sd_var 2)) (blkOk_by (N := N__law_right) (sc := defScope s__law_right) (own := [("turns", 6), ("is_mirrored", 7), ("cells", 8)]) (by decide +kernel)) (fun _ _ _ _ _ => by exact (by exact sg_tup rfl (sg_cons (by exact sg_name 6 sc__law_right.nd) (sg_cons (by exact sg_name 7 sc__law_right.nd) (sg_cons (by exact sg_name 8 sc__law_right.nd) (sg_nil)))))) (fun _ _ _ _ _ => by exact (sc_one (by exact st_cmp (op_gEq (room_hu hr)) (by exact sd_var 8) (by exact sd_var 3)))) (fun _ _ _ _ _ => by exact (by exact sd_tup (by exact sa_cons (by exact sd_var 6) (sa_cons (by exact sd_var 7) (sa_nil))))))) (sa_nil)))) (sa_nil)))) (ss_cons (by exact sx_set 5 sc__law_right.nd (by exact sd_of (by exact so_lst (by exact sa_cons (by exact sd_cal (D_placed C) tk (hr.mono (by omega)) (.inl rfl) rfl (by exact sa_cons (by exact sd_var 1) (sa_nil))) (sa_cons (by exact sd_cal (D_turned C) tk (hr.mono (by omega)) (.inl rfl) rfl (by exact sa_cons (by exact sd_var 1) (sa_nil))) (sa_cons (by exact sd_cal (D_mirrored C) tk (hr.mono (by omega)) (.inl rfl) rfl (by exact sa_cons (by exact sd_var 1) (sa_nil))) (sa_cons (by exact sd_cal (D_least_form C) tk (hr.mono (by omega)) (.inl rfl) rfl (by exact sa_cons (by exact sd_var 1) (sa_nil))) (sa_cons (by exact sd_cal (D_symmetries C) tk (hr.mono (by omega)) (.inl rfl) rfl (by exact sa_cons (by exact sd_var 1) (sa_nil))) (sa_nil))))))))) (ss_cons (by exact sx_if (by exact st_not (by exact st_tru (by exact sd_cal (D__law_like C 8) tk (hr.mono (by omega)) (.inl rfl) rfl (by exact sa_cons (by exact sd_var 5) (sa_cons (by exact sd_of (by exact so_lst (by exact sa_cons (by exact sd_var 3) (sa_cons (by exact sd_ix (room_hu hr) (by exact sd_ix (room_hu hr) (by exact sd_var 2) (by exact sd_int)) (by exact sd_int)) (sa_cons (by exact sd_ix (room_hu hr) (by exact sd_ix (room_hu hr) (by exact sd_var 2) (by exact sd_int)) (by exact sd_int)) (sa_cons (by exact sd_callB (call_gMin rfl (room_hu hr)) rfl C.b_min boot_min (by exact sa_cons (by exact sd_of (by exact so_comp (own := [("turns", 6), ("is_mirrored", 7), ("cells", 8)]) rfl sc__law_right.nd (by exact sj_seq (by exact sd_var 2)) (blkOk_by (N := N__law_right) (sc := defScope s__law_right) (own := [("turns", 6), ("is_mirrored", 7), ("cells", 8)]) (by decide +kernel)) (fun _ _ _ _ _ => by exact (by exact sg_tup rfl (sg_cons (by exact sg_name 6 sc__law_right.nd) (sg_cons (by exact sg_name 7 sc__law_right.nd) (sg_cons (by exact sg_name 8 sc__law_right.nd) (sg_nil)))))) (fun _ _ _ _ _ => by exact (sc_nil)) (fun _ _ _ _ _ => by exact (by exact sd_var 8)))) (sa_nil))) (sa_cons (by exact sd_var 4) (sa_nil)))))))) (sa_nil)))))) (ss_one (by exact sx_ret (by exact sd_bool))) (ss_nil)) (ss_cons (by exact sx_if (by exact st_cmp (op_gNotIn (room_hu hr)) (by exact sd_callB call_gLen rfl C.b_len boot_len (by exact sa_cons (by exact sd_var 4) (sa_nil))) (by exact sd_tup (by exact sa_cons (by exact sd_int) (sa_cons (by exact sd_int) (sa_cons (by exact sd_int) (sa_cons (by exact sd_int) (sa_nil))))))) (ss_one (by exact sx_ret (by exact sd_bool))) (ss_nil)) (ss_cons (by exact sx_unp (by exact sd_cal (D__law_some C) tk (hr.mono (by omega)) (.inl rfl) rfl (by exact sa_cons (by exact sd_own 0) (sa_cons (by exact sd_var 2) (sa_nil)))) (by exact sg_tup rfl (sg_cons (by exact sg_name 6 sc__law_right.nd) (sg_cons (by exact sg_name 7 sc__law_right.nd) (sg_cons (by exact sg_name 8 sc__law_right.nd) (sg_nil)))))) (ss_cons (by exact sx_upar [9, 10] rfl (si_v (by exact sd_bin op_gSub (by exact sd_cal (D__law_roll C) tk (hr.mono (by omega)) (.inl rfl) rfl (by exact sa_cons (by exact sd_own 0) (sa_cons (by exact sd_int) (sa_nil)))) (by exact sd_int)) (si_v (by exact sd_bin op_gSub (by exact sd_cal (D__law_roll C) tk (hr.mono (by omega)) (.inl rfl) rfl (by exact sa_cons (by exact sd_own 0) (sa_cons (by exact sd_int) (sa_nil)))) (by exact sd_int)) (si_nil))) (sn_cons 9 sc__law_right.nd (sn_cons 10 sc__law_right.nd (sn_nil)))) (ss_cons (by exact sx_set 11 sc__law_right.nd (by exact sd_callTy call_gTuple rfl C.b_tuple boot_tuple (by exact sa_cons (by exact sd_of (by exact so_callB (call_gSorted rfl (room_hu hr)) rfl C.b_sorted boot_sorted (by exact sa_cons (by exact sd_of (by exact so_comp (own := [("x", 12), ("y", 13)]) rfl sc__law_right.nd (by exact sj_seq (by exact sd_var 8)) (blkOk_by (N := N__law_right) (sc := defScope s__law_right) (own := [("x", 12), ("y", 13)]) (by decide +kernel)) (fun _ _ _ _ _ => by exact (by exact sg_tup rfl (sg_cons (by exact sg_name 12 sc__law_right.nd) (sg_cons (by exact sg_name 13 sc__law_right.nd) (sg_nil))))) (fun _ _ _ _ _ => by exact (sc_nil)) (fun _ _ _ _ _ => by exact (by exact sd_tup (by exact sa_cons (by exact sd_bin op_gAdd (by exact sd_var 12) (by exact sd_var 9)) (sa_cons (by exact sd_bin op_gAdd (by exact sd_var 13) (by exact sd_var 10)) (sa_nil))))))) (sa_nil)))) (sa_nil)))) (ss_one (by exact sx_ret (by exact sd_cal (D__law_like C 8) tk (hr.mono (by omega)) (.inl rfl) rfl (by exact sa_cons (by exact sd_of (by exact so_lst (by exact sa_cons (by exact sd_cal (D_are_alike C) tk (hr.mono (by omega)) (.inl rfl) rfl (by exact sa_cons (by exact sd_var 1) (sa_cons (by exact sd_var 11) (sa_nil)))) (sa_cons (by exact sd_cal (D_are_alike C) tk (hr.mono (by omega)) (.inl rfl) rfl (by exact sa_cons (by exact sd_var 11) (sa_cons (by exact sd_var 1) (sa_nil)))) (sa_cons (by exact sd_cal (D_least_form C) tk (hr.mono (by omega)) (.inl rfl) rfl (by exact sa_cons (by exact sd_var 11) (sa_nil))) (sa_cons (by exact sd_callB call_gLen rfl C.b_len boot_len (by exact sa_cons (by exact sd_cal (D_symmetries C) tk (hr.mono (by omega)) (.inl rfl) rfl (by exact sa_cons (by exact sd_var 11) (sa_nil))) (sa_nil))) (sa_nil))))))) (sa_cons (by exact sd_of (by exact so_lst (by exact sa_cons (by exact sd_bool) (sa_cons (by exact sd_bool) (sa_cons (by exact sd_cal (D_least_form C) tk (hr.mono (by omega)) (.inl rfl) rfl (by exact sa_cons (by exact sd_var 1) (sa_nil))) (sa_cons (by exact sd_callB call_gLen rfl C.b_len boot_len (by exact sa_cons (by exact sd_var 4) (sa_nil))) (sa_nil))))))) (sa_nil)))))))))))))))
  exact this
theorem hD_law (C : Facts K mg) {T0 : List (Addr × Str)} : ∀ y f, tbl_law y = some f → ∃ T', DefOk P WC.w K mg base 6 y T' f ∧ (T' = [] ∨ T' = T0) := by
  intro y f h
  unfold tbl_law at h
  split at h
  · rename_i e; subst e; cases h; exact ⟨[], (D_placed C).mono (by decide), .inl rfl⟩
  split at h
  · rename_i e; subst e; cases h; exact ⟨[], (D_turned C).mono (by decide), .inl rfl⟩
  split at h
  · rename_i e; subst e; cases h; exact ⟨[], (D_mirrored C).mono (by decide), .inl rfl⟩
  split at h
  · rename_i e; subst e; cases h; exact ⟨[], (D_least_form C).mono (by decide), .inl rfl⟩
  split at h
  · rename_i e; subst e; cases h; exact ⟨[], (D_symmetries C).mono (by decide), .inl rfl⟩
  cases h
theorem F_law (C : Facts K mg) (TB : TBs K mg base) {fd : FuncData} (Fd : FunD K "law" "law" (defArgs s_law) (defBody s_law) (defScope s_law) [] [] (He.ga K "law") fd) : FnOk P WC.w K mg base (L2N.CX P WC.w) 14 (He.ga K "law") fd ["script"] (spF K mg (T0of K) f_law) := by
  have := def_okF (P := P) (w := WC.w) (mg := mg) (base := base) (k := 13) (m := m_law) (io := none) (ro := false) (S := S_law (T0of K)) Fd sc_law (by decide) (by simp only [S_law]; decide) (by simp only [S_law]; decide)
    (fun A outer s H E hr => by
      have tk := dX_takes (P := P) (w := WC.w) (K := K) (mg := mg) (base := base) (N := N_law) (x := "law") (st := s_law) (A := A) (outer := outer) (s := s) (H := H) (E := E)
      have hp := d_own (P := P) (w := WC.w) (K := K) (mg := mg) (base := base) (N := N_law) (x := "law") (st := s_law) (A := A) (outer := outer) (s := s) (H := H) (E := E)
      exact (ss_cons (by exact sx_seto 1 sc_law.nd (by exact so_cal (D__law_cup C) tk (hr.mono (by omega)) (.inl rfl) rfl (by exact sa_cons (by exact sd_var 0) (sa_nil)))) (ss_cons (by exact sx_for hp rfl (by exact sj_rng1 rfl C.b_range (by exact sa_cons (by exact sd_int) (sa_nil))) (by exact sg_name 2 sc_law.nd) (ss_cons (by exact sx_par 20 21 rfl sc_law.nd (si_v (by exact sd_cal (D__law_grown C) tk (hr.mono (by omega)) (.inl rfl) rfl (by exact sa_cons (by exact sd_own 1) (sa_cons (by exact sd_cal (D__law_some C) tk (hr.mono (by omega)) (.inl rfl) rfl (by exact sa_cons (by exact sd_own 1) (sa_cons (by exact sd_of (by exact so_lst (by exact sa_cons (by exact sd_int) (sa_cons (by exact sd_int) (sa_cons (by exact sd_int) (sa_cons (by exact sd_int) (sa_nil))))))) (sa_nil)))) (sa_nil)))) (si_v (by exact sd_cal (D__law_grown C) tk (hr.mono (by omega)) (.inl rfl) rfl (by exact sa_cons (by exact sd_own 1) (sa_cons (by exact sd_cal (D__law_some C) tk (hr.mono (by omega)) (.inl rfl) rfl (by exact sa_cons (by exact sd_own 1) (sa_cons (by exact sd_of (by exact so_lst (by exact sa_cons (by exact sd_int) (sa_cons (by exact sd_int) (sa_cons (by exact sd_int) (sa_cons (by exact sd_int) (sa_nil))))))) (sa_nil)))) (sa_nil)))) (si_nil)))) (ss_cons (by exact sx_set 6 sc_law.nd (by exact sd_cmp (op_gIn (room_hu hr)) (by exact sd_cal (D__law_placed C) tk (hr.mono (by omega)) (.inl rfl) rfl (by exact sa_cons (by exact sd_var 21) (sa_nil))) (by exact sd_of (by exact so_comp (own := [("turns", 22), ("is_mirrored", 23), ("cells", 24)]) (hv := by simp only [S_law]; decide) rfl sc_law.nd (by exact sj_seq (by exact sd_cal (D__law_forms C) tk (hr.mono (by omega)) (.inl rfl) rfl (by exact sa_cons (by exact sd_var 20) (sa_nil)))) (blkOk_by (N := N_law) (sc := defScope s_law) (own := [("turns", 22), ("is_mirrored", 23), ("cells", 24)]) (by decide +kernel)) (fun _ _ _ _ _ => by exact (by exact sg_tup rfl (sg_cons (by exact sg_name 22 sc_law.nd) (sg_cons (by exact sg_name 23 sc_law.nd) (sg_cons (by exact sg_name 24 sc_law.nd) (sg_nil)))))) (fun _ _ _ _ _ => by exact (sc_nil)) (fun _ _ _ _ _ => by exact (by exact sd_var 24)))))) (ss_one (by exact sx_if (by exact pt_bool (sw_or (by exact st_not (by exact st_tru (by exact sd_cal (D__law_right C) tk (hr.mono (by omega)) (.inl rfl) rfl (by exact sa_cons (by exact sd_own 1) (sa_cons (by exact sd_var 20) (sa_nil)))))) (sw_or1 (by exact st_not (by exact st_tru (by exact sd_cal (D__law_like C 8) tk (hr.mono (by omega)) (.inl rfl) rfl (by exact sa_cons (by exact sd_of (by exact so_lst (by exact sa_cons (by exact sd_cal (D_are_alike C) tk (hr.mono (by omega)) (.inl rfl) rfl (by exact sa_cons (by exact sd_var 20) (sa_cons (by exact sd_var 21) (sa_nil)))) (sa_cons (by exact sd_cal (D_are_alike C) tk (hr.mono (by omega)) (.inl rfl) rfl (by exact sa_cons (by exact sd_var 21) (sa_cons (by exact sd_var 20) (sa_nil)))) (sa_nil))))) (sa_cons (by exact sd_of (by exact so_lst (by exact sa_cons (by exact sd_var 6) (sa_cons (by exact sd_var 6) (sa_nil))))) (sa_nil))))))))) (ss_one (by exact sx_ret (by exact sd_bool))) (ss_nil)))))) (ss_cons (by exact sx_unp (by exact sd_tup (by exact sa_cons (by exact sd_tup (by exact sa_cons (by exact sd_tup (by exact sa_cons (by exact sd_int) (sa_cons (by exact sd_int) (sa_nil)))) (sa_cons (by exact sd_tup (by exact sa_cons (by exact sd_int) (sa_cons (by exact sd_int) (sa_nil)))) (sa_cons (by exact sd_tup (by exact sa_cons (by exact sd_int) (sa_cons (by exact sd_int) (sa_nil)))) (sa_nil))))) (sa_cons (by exact sd_tup (by exact sa_cons (by exact sd_tup (by exact sa_cons (by exact sd_int) (sa_cons (by exact sd_int) (sa_nil)))) (sa_cons (by exact sd_tup (by exact sa_cons (by exact sd_int) (sa_cons (by exact sd_int) (sa_nil)))) (sa_cons (by exact sd_tup (by exact sa_cons (by exact sd_int) (sa_cons (by exact sd_int) (sa_nil)))) (sa_cons (by exact sd_tup (by exact sa_cons (by exact sd_int) (sa_cons (by exact sd_int) (sa_nil)))) (sa_nil)))))) (sa_nil)))) (by exact sg_tup rfl (sg_cons (by exact sg_name 3 sc_law.nd) (sg_cons (by exact sg_name 4 sc_law.nd) (sg_nil))))) (ss_cons (by exact sx_set 5 sc_law.nd (by exact sd_of (by exact so_lst (by exact sa_cons (by exact sd_cal (D_placed C) tk (hr.mono (by omega)) (.inl rfl) rfl (by exact sa_cons (by exact sd_tup (by exact sa_cons (by exact sd_tup (by exact sa_cons (by exact sd_int) (sa_cons (by exact sd_int) (sa_nil)))) (sa_cons (by exact sd_tup (by exact sa_cons (by exact sd_int) (sa_cons (by exact sd_int) (sa_nil)))) (sa_nil)))) (sa_nil))) (sa_cons (by exact sd_cal (D_turned C) tk (hr.mono (by omega)) (.inl rfl) rfl (by exact sa_cons (by exact sd_var 3) (sa_nil))) (sa_cons (by exact sd_cal (D_mirrored C) tk (hr.mono (by omega)) (.inl rfl) rfl (by exact sa_cons (by exact sd_var 4) (sa_nil))) (sa_cons (by exact sd_cal (D_least_form C) tk (hr.mono (by omega)) (.inl rfl) rfl (by exact sa_cons (by exact sd_var 4) (sa_nil))) (sa_cons (by exact sd_cal (D_are_alike C) tk (hr.mono (by omega)) (.inl rfl) rfl (by exact sa_cons (by exact sd_var 4) (sa_cons (by exact sd_cal (D_mirrored C) tk (hr.mono (by omega)) (.inl rfl) rfl (by exact sa_cons (by exact sd_var 4) (sa_nil))) (sa_nil)))) (sa_cons (by exact sd_cal (D_symmetries C) tk (hr.mono (by omega)) (.inl rfl) rfl (by exact sa_cons (by exact sd_var 4) (sa_nil))) (sa_cons (by exact sd_cal (D_symmetries C) tk (hr.mono (by omega)) (.inl rfl) rfl (by exact sa_cons (by exact sd_var 3) (sa_nil))) (sa_nil))))))))))) (ss_cons (by exact sx_set 6 sc_law.nd (by exact sd_of (by exact so_lst (by exact sa_cons (by exact sd_tup (by exact sa_cons (by exact sd_tup (by exact sa_cons (by exact sd_int) (sa_cons (by exact sd_int) (sa_nil)))) (sa_cons (by exact sd_tup (by exact sa_cons (by exact sd_int) (sa_cons (by exact sd_int) (sa_nil)))) (sa_nil)))) (sa_cons (by exact sd_tup (by exact sa_cons (by exact sd_tup (by exact sa_cons (by exact sd_int) (sa_cons (by exact sd_int) (sa_nil)))) (sa_cons (by exact sd_tup (by exact sa_cons (by exact sd_int) (sa_cons (by exact sd_int) (sa_nil)))) (sa_cons (by exact sd_tup (by exact sa_cons (by exact sd_int) (sa_cons (by exact sd_int) (sa_nil)))) (sa_nil))))) (sa_cons (by exact sd_tup (by exact sa_cons (by exact sd_tup (by exact sa_cons (by exact sd_int) (sa_cons (by exact sd_int) (sa_nil)))) (sa_cons (by exact sd_tup (by exact sa_cons (by exact sd_int) (sa_cons (by exact sd_int) (sa_nil)))) (sa_cons (by exact sd_tup (by exact sa_cons (by exact sd_int) (sa_cons (by exact sd_int) (sa_nil)))) (sa_cons (by exact sd_tup (by exact sa_cons (by exact sd_int) (sa_cons (by exact sd_int) (sa_nil)))) (sa_nil)))))) (sa_cons (by exact sd_tup (by exact sa_cons (by exact sd_tup (by exact sa_cons (by exact sd_int) (sa_cons (by exact sd_int) (sa_nil)))) (sa_cons (by exact sd_tup (by exact sa_cons (by exact sd_int) (sa_cons (by exact sd_int) (sa_nil)))) (sa_cons (by exact sd_tup (by exact sa_cons (by exact sd_int) (sa_cons (by exact sd_int) (sa_nil)))) (sa_cons (by exact sd_tup (by exact sa_cons (by exact sd_int) (sa_cons (by exact sd_int) (sa_nil)))) (sa_nil)))))) (sa_cons (by exact sd_bool) (sa_cons (by exact sd_tup (by exact sa_cons (by exact sd_tup (by exact sa_cons (by exact sd_int) (sa_cons (by exact sd_bool) (sa_nil)))) (sa_cons (by exact sd_tup (by exact sa_cons (by exact sd_int) (sa_cons (by exact sd_bool) (sa_nil)))) (sa_nil)))) (sa_cons (by exact sd_tup (by exact sa_cons (by exact sd_tup (by exact sa_cons (by exact sd_int) (sa_cons (by exact sd_bool) (sa_nil)))) (sa_cons (by exact sd_tup (by exact sa_cons (by exact sd_int) (sa_cons (by exact sd_bool) (sa_nil)))) (sa_nil)))) (sa_nil))))))))))) (ss_cons (by exact sx_if (by exact st_not (by exact st_tru (by exact sd_cal (D__law_like C 8) tk (hr.mono (by omega)) (.inl rfl) rfl (by exact sa_cons (by exact sd_var 5) (sa_cons (by exact sd_var 6) (sa_nil)))))) (ss_one (by exact sx_ret (by exact sd_bool))) (ss_nil)) (ss_cons (by exact sx_set 7 sc_law.nd (by exact sd_bin op_gSub (by exact sd_cal (D__law_roll C) tk (hr.mono (by omega)) (.inl rfl) rfl (by exact sa_cons (by exact sd_own 1) (sa_cons (by exact sd_int) (sa_nil)))) (by exact sd_int))) (ss_cons (by exact sx_par 8 9 rfl sc_law.nd (si_v (by exact sd_callTy call_gTuple rfl C.b_tuple boot_tuple (by exact sa_cons (by exact sd_of (by exact so_callB (call_gSorted rfl (room_hu hr)) rfl C.b_sorted boot_sorted (by exact sa_cons (by exact sd_of (by exact so_comp (own := [("one", 20)]) (hv := by simp only [S_law]; decide) rfl sc_law.nd (by exact sj_rng1 rfl C.b_range (by exact sa_cons (by exact sd_int) (sa_nil))) (blkOk_by (N := N_law) (sc := defScope s_law) (own := [("one", 20)]) (by decide +kernel)) (fun _ _ _ _ _ => by exact (by exact sg_name 20 sc_law.nd)) (fun _ _ _ _ _ => by exact (sc_nil)) (fun _ _ _ _ _ => by exact (by exact sd_tup (by exact sa_cons (by exact sd_bin op_gAdd (by exact sd_var 7) (by exact sd_bin op_gMod (by exact sd_callTy call_gInt rfl C.b_int boot_int (by exact sa_cons (by exact sd_var 20) (sa_nil))) (by exact sd_int))) (sa_cons (by exact sd_bin op_gFdiv (by exact sd_callTy call_gInt rfl C.b_int boot_int (by exact sa_cons (by exact sd_var 20) (sa_nil))) (by exact sd_int)) (sa_nil))))))) (sa_nil)))) (sa_nil))) (si_v (by exact sd_callTy call_gTuple rfl C.b_tuple boot_tuple (by exact sa_cons (by exact sd_of (by exact so_comp (own := [("x", 25)]) (hv := by simp only [S_law]; decide) rfl sc_law.nd (by exact sj_rng1 rfl C.b_range (by exact sa_cons (by exact sd_int) (sa_nil))) (blkOk_by (N := N_law) (sc := defScope s_law) (own := [("x", 25)]) (by decide +kernel)) (fun _ _ _ _ _ => by exact (by exact sg_name 25 sc_law.nd)) (fun _ _ _ _ _ => by exact (sc_nil)) (fun _ _ _ _ _ => by exact (by exact sd_tup (by exact sa_cons (by exact sd_var 25) (sa_cons (by exact sd_var 7) (sa_nil))))))) (sa_nil))) (si_nil)))) (ss_cons (by exact sx_set 10 sc_law.nd (by exact sd_of (by exact so_lst (by exact sa_cons (by exact sd_tup (by exact sa_cons (by exact sd_int) (sa_cons (by exact sd_int) (sa_nil)))) (sa_nil))))) (ss_cons (by exact sx_for hp rfl (by exact sj_rng2 rfl C.b_range (by exact sa_cons (by exact sd_int) (sa_cons (by exact sd_int) (sa_nil)))) (by exact sg_name 11 sc_law.nd) (ss_one (by exact sx_set 10 sc_law.nd (by exact sd_bin op_gAdd (by exact sd_var 10) (by exact sd_of (by exact so_lst (by exact sa_cons (by exact sd_tup (by exact sa_cons (by exact sd_var 11) (sa_cons (by exact sd_int) (sa_nil)))) (sa_cons (by exact sd_tup (by exact sa_cons (by exact sd_un un_gNeg (by exact sd_var 11)) (sa_cons (by exact sd_int) (sa_nil)))) (sa_cons (by exact sd_tup (by exact sa_cons (by exact sd_int) (sa_cons (by exact sd_var 11) (sa_nil)))) (sa_cons (by exact sd_tup (by exact sa_cons (by exact sd_int) (sa_cons (by exact sd_un un_gNeg (by exact sd_var 11)) (sa_nil)))) (sa_nil))))))))))) (ss_cons (by exact sx_set 12 sc_law.nd (by exact sd_of (by exact so_callB (call_gSorted rfl (room_hu hr)) rfl C.b_sorted boot_sorted (by exact sa_cons (by exact sd_of (by exact so_lst (by exact sa_cons (by exact sd_tup (by exact sa_cons (by exact sd_int) (sa_cons (by exact sd_int) (sa_nil)))) (sa_cons (by exact sd_tup (by exact sa_cons (by exact sd_int) (sa_cons (by exact sd_int) (sa_nil)))) (sa_cons (by exact sd_tup (by exact sa_cons (by exact sd_int) (sa_cons (by exact sd_int) (sa_nil)))) (sa_cons (by exact sd_tup (by exact sa_cons (by exact sd_int) (sa_cons (by exact sd_int) (sa_nil)))) (sa_cons (by exact sd_tup (by exact sa_cons (by exact sd_int) (sa_cons (by exact sd_int) (sa_nil)))) (sa_cons (by exact sd_tup (by exact sa_cons (by exact sd_int) (sa_cons (by exact sd_int) (sa_nil)))) (sa_cons (by exact sd_tup (by exact sa_cons (by exact sd_un un_gNeg (by exact sd_int)) (sa_cons (by exact sd_int) (sa_nil)))) (sa_cons (by exact sd_tup (by exact sa_cons (by exact sd_int) (sa_cons (by exact sd_un un_gNeg (by exact sd_int)) (sa_nil)))) (sa_nil))))))))))) (sa_nil))))) (ss_cons (by exact sx_set 13 sc_law.nd (by exact sd_callTy call_gTuple rfl C.b_tuple boot_tuple (by exact sa_cons (by exact sd_bin op_gAdd (by exact sd_of (by exact so_comp (own := [("y", 26)]) (hv := by simp only [S_law]; decide) rfl sc_law.nd (by exact sj_rng1 rfl C.b_range (by exact sa_cons (by exact sd_int) (sa_nil))) (blkOk_by (N := N_law) (sc := defScope s_law) (own := [("y", 26)]) (by decide +kernel)) (fun _ _ _ _ _ => by exact (by exact sg_name 26 sc_law.nd)) (fun _ _ _ _ _ => by exact (sc_nil)) (fun _ _ _ _ _ => by exact (by exact sd_tup (by exact sa_cons (by exact sd_int) (sa_cons (by exact sd_var 26) (sa_nil))))))) (by exact sd_of (by exact so_lst (by exact sa_cons (by exact sd_tup (by exact sa_cons (by exact sd_int) (sa_cons (by exact sd_int) (sa_nil)))) (sa_nil))))) (sa_nil)))) (ss_cons (by exact sx_set 14 sc_law.nd (by exact sd_of (by exact so_lst (by exact sa_cons (by exact sd_tup (by exact sa_cons (by exact sd_var 8) (sa_cons (by exact sd_int) (sa_nil)))) (sa_cons (by exact sd_tup (by exact sa_cons (by exact sd_var 9) (sa_cons (by exact sd_int) (sa_nil)))) (sa_cons (by exact sd_tup (by exact sa_cons (by exact sd_callTy call_gTuple rfl C.b_tuple boot_tuple (by exact sa_cons (by exact sd_of (by exact so_callB (call_gSorted rfl (room_hu hr)) rfl C.b_sorted boot_sorted (by exact sa_cons (by exact sd_var 10) (sa_nil)))) (sa_nil))) (sa_cons (by exact sd_int) (sa_nil)))) (sa_cons (by exact sd_tup (by exact sa_cons (by exact sd_callTy call_gTuple rfl C.b_tuple boot_tuple (by exact sa_cons (by exact sd_var 12) (sa_nil))) (sa_cons (by exact sd_int) (sa_nil)))) (sa_cons (by exact sd_tup (by exact sa_cons (by exact sd_cal (D__law_stairs C) tk (hr.mono (by omega)) (.inl rfl) rfl (by exact sa_cons (by exact sd_int) (sa_nil))) (sa_cons (by exact sd_int) (sa_nil)))) (sa_cons (by exact sd_tup (by exact sa_cons (by exact sd_var 13) (sa_cons (by exact sd_int) (sa_nil)))) (sa_cons (by exact sd_tup (by exact sa_cons (by exact sd_tup (by exact sa_cons (by exact sd_tup (by exact sa_cons (by exact sd_var 7) (sa_cons (by exact sd_var 7) (sa_nil)))) (sa_nil))) (sa_cons (by exact sd_int) (sa_nil)))) (sa_nil))))))))))) (ss_cons (by exact sx_for hp rfl (by exact sj_seq (by exact sd_var 14)) (by exact sg_tup rfl (sg_cons (by exact sg_name 15 sc_law.nd) (sg_cons (by exact sg_name 16 sc_law.nd) (sg_nil)))) (ss_one (by exact sx_if (by exact pt_bool (sw_or (by exact st_cmp (op_gNe (room_hu hr)) (by exact sd_callB call_gLen rfl C.b_len boot_len (by exact sa_cons (by exact sd_cal (D_symmetries C) tk (hr.mono (by omega)) (.inl rfl) rfl (by exact sa_cons (by exact sd_var 15) (sa_nil))) (sa_nil))) (by exact sd_var 16)) (sw_or1 (by exact st_not (by exact st_tru (by exact sd_cal (D__law_right C) tk (hr.mono (by omega)) (.inl rfl) rfl (by exact sa_cons (by exact sd_own 1) (sa_cons (by exact sd_var 15) (sa_nil))))))))) (ss_one (by exact sx_ret (by exact sd_bool))) (ss_nil)))) (ss_cons (by exact sx_set 17 sc_law.nd (by exact sd_of (by exact so_lst (by exact sa_cons (by exact sd_none) (sa_cons (by exact sd_tup (by exact sa_nil)) (sa_cons (by exact sd_of (by exact so_lst (by exact sa_cons (by exact sd_tup (by exact sa_cons (by exact sd_int) (sa_cons (by exact sd_int) (sa_nil)))) (sa_nil)))) (sa_cons (by exact sd_tup (by exact sa_cons (by exact sd_tup (by exact sa_cons (by exact sd_int) (sa_cons (by exact sd_int) (sa_nil)))) (sa_cons (by exact sd_tup (by exact sa_cons (by exact sd_int) (sa_cons (by exact sd_int) (sa_nil)))) (sa_nil)))) (sa_cons (by exact sd_tup (by exact sa_cons (by exact sd_tup (by exact sa_cons (by exact sd_int) (sa_cons (by exact sd_int) (sa_nil)))) (sa_cons (by exact sd_tup (by exact sa_cons (by exact sd_int) (sa_cons (by exact sd_int) (sa_nil)))) (sa_nil)))) (sa_cons (by exact sd_tup (by exact sa_cons (by exact sd_tup (by exact sa_cons (by exact sd_int) (sa_cons (by exact sd_int) (sa_nil)))) (sa_cons (by exact sd_tup (by exact sa_cons (by exact sd_int) (sa_cons (by exact sd_int) (sa_nil)))) (sa_nil)))) (sa_cons (by exact sd_tup (by exact sa_cons (by exact sd_tup (by exact sa_cons (by exact sd_bool) (sa_cons (by exact sd_int) (sa_nil)))) (sa_nil))) (sa_nil))))))))))) (ss_cons (by exact sx_seto 18 sc_law.nd (by exact so_lst (by exact sa_nil))) (ss_cons (by exact sx_for hp rfl (by exact sj_seq (by exact sd_var 17)) (by exact sg_name 19 sc_law.nd) (ss_cons (by exact sx_seto 18 sc_law.nd (by exact sd_obin op_gCat (by exact sd_own 18) (by exact sd_of (by exact so_comp (own := [("call", 27)]) (hv := by simp only [S_law]; decide) rfl sc_law.nd (by exact sj_seq (by exact sd_tup (by exact sa_cons (by exact sd_fn rfl C.g_placed) (sa_cons (by exact sd_fn rfl C.g_turned) (sa_cons (by exact sd_fn rfl C.g_mirrored) (sa_cons (by exact sd_fn rfl C.g_least_form) (sa_cons (by exact sd_fn rfl C.g_symmetries) (sa_nil)))))))) (blkOk_by (N := N_law) (sc := defScope s_law) (own := [("call", 27)]) (by decide +kernel)) (fun _ _ _ _ _ => by exact (by exact sg_name 27 sc_law.nd)) (fun _ _ _ _ _ => by exact (sc_nil)) (fun _ _ _ _ _ => by exact (by exact sd_fails (k := 6) (D__law_error C) rfl (TB _ (by decide)) rfl (hmT_law K) (hu_law K) (hr.mono (by omega)) (by apply lamS_by; show lamSB (relS _ (defScope s_law)) _ = true; decide +kernel) (fun A outer s H E f c' hr2 => by exact (by exact sd_calV (k := 6) 27 (hD_law C) lamN_takes (hr2.mono (by omega)) (by exact sa_cons (by exact sd_var 19) (sa_nil)))))))))) (ss_cons (by exact sx_app 18 (by exact sd_fails (k := 6) (D__law_error C) rfl (TB _ (by decide)) rfl (hmT_law K) (hu_law K) (hr.mono (by omega)) (by apply lamS_by; show lamSB (defScope s_law) _ = true; decide +kernel) (fun A outer s H E f c' hr2 => by exact (by exact sd_cal (D_are_alike C) lamN_takes (hr2.mono (by omega)) (.inl rfl) rfl (by exact sa_cons (by exact sd_var 19) (sa_cons (by exact sd_var 3) (sa_nil))))))) (ss_one (by exact sx_app 18 (by exact sd_fails (k := 6) (D__law_error C) rfl (TB _ (by decide)) rfl (hmT_law K) (hu_law K) (hr.mono (by omega)) (by apply lamS_by; show lamSB (defScope s_law) _ = true; decide +kernel) (fun A outer s H E f c' hr2 => by exact (by exact sd_cal (D_are_alike C) lamN_takes (hr2.mono (by omega)) (.inl rfl) rfl (by exact sa_cons (by exact sd_var 3) (sa_cons (by exact sd_var 19) (sa_nil))))))))))) (ss_one (by exact sx_ret (by exact sd_cmp (op_gEq (room_hu hr)) (by exact sd_own 18) (by exact sd_of (by exact so_rep (by exact so_lst (by exact sa_cons (by exact sd_str) (sa_nil))))))))))))))))))))))))))
  exact this
end
end WL

set_option Elab.async false
set_option linter.all false
set_option maxRecDepth 100000
set_option maxHeartbeats 0
/-! the head of k75_whole_likenesses; written by gen.py. -/
namespace WL
open PySem PySem.Spec PyProof.Rows L2 HotX L2H LamX TL
def dD (x : Str) (st : Stmt) : He.DefD := ⟨(x, none), x, x, defArgs st, defBody st, defScope st, [], []⟩
def fn : List He.DefD := [dD "is_whole" s_is_whole, dD "is_tuple_of" s_is_tuple_of, dD "is_ascending" s_is_ascending, dD "is_cell" s_is_cell, dD "are_cells" s_are_cells, dD "neighbours_of" s_neighbours_of, dD "corners_of" s_corners_of, dD "do_hang" s_do_hang, dD "counts_in" s_counts_in, dD "is_piece" s_is_piece, dD "need_piece" s_need_piece, dD "placed_in" s_placed_in, dD "turned_in" s_turned_in, dD "mirrored_in" s_mirrored_in, dD "forms_of" s_forms_of, dD "placed" s_placed, dD "turned" s_turned, dD "mirrored" s_mirrored, dD "least_in" s_least_in, dD "least_form" s_least_form, dD "are_alike" s_are_alike, dD "symmetries" s_symmetries, dD "_law_cup" s__law_cup, dD "_law_roll" s__law_roll, dD "_law_some" s__law_some, dD "_law_sort" s__law_sort, dD "_law_like" s__law_like, dD "_law_grown" s__law_grown, dD "_law_stays" s__law_stays, dD "_law_placed" s__law_placed, dD "_law_turned" s__law_turned, dD "_law_mirrored" s__law_mirrored, dD "_law_stairs" s__law_stairs, dD "_law_error" s__law_error, dD "_law_forms" s__law_forms, dD "_law_right" s__law_right, dD "law" s_law]
def fa : List He.Fa := [.free "isinstance", .free "int", .free "bool", .free "tuple", .free "len", .free "zip", .free "all", .int "FAR" (1000), .int "CELLS" (60), .free "dict", .free "range", .free "max", .free "min", .exc "InvalidPiece", .glo "InvalidPiece", .free "sorted", .free "list", .free "abs", .free "str", .glo "symmetries", .glo "least_form", .glo "mirrored", .glo "turned", .glo "placed", .glo "is_whole", .glo "is_tuple_of", .glo "is_ascending", .glo "is_cell", .glo "are_cells", .glo "neighbours_of", .glo "corners_of", .glo "do_hang", .glo "counts_in", .glo "is_piece", .glo "need_piece", .glo "placed_in", .glo "turned_in", .glo "mirrored_in", .glo "forms_of", .glo "least_in", .glo "are_alike", .glo "_law_cup", .glo "_law_roll", .glo "_law_some", .glo "_law_sort", .glo "_law_like", .glo "_law_stays", .glo "_law_grown", .glo "_law_placed", .glo "_law_turned", .glo "_law_mirrored", .glo "_law_stairs", .glo "_law_error", .glo "TautError", .glo "_law_forms", .glo "_law_right", .glo "law", .exm "InvalidPiece" "TautError" true]
def tf : List He.Defn := [("law", none)]
def exL (K : PySem.W.Frag) : List Bool := [excCB K (He.ga K "InvalidPiece"), decide (PySem.W.kitOne K (.ref (He.ga K "InvalidPiece")) (.ref (He.ga K "InvalidPiece")) = some true)]
def ex (K : PySem.W.Frag) : Bool := (exL K).all id
theorem exAt {K : PySem.W.Frag} {b : Bool} (i : Nat) (h : ex K = true) (e : (exL K)[i]? = some b := by rfl) : b = true := List.all_eq_true.mp h b (List.mem_of_getElem? e)
abbrev RO : PySem.W.OpenRow := PySem.W.OpenLaw.row PySem.Challenge.rw_tautlines_k75_whole_likenesses
abbrev hk : PySem.W.Hook := He.hookX 5 fa fn [] tf ex
def ob (s : PySem.W.SharedT) : He.AlX := He.obsX 5 fa fn [] tf ex (HandSHeadRun.getT s)
theorem ob_eq (s : PySem.W.SharedT) : ob s = hk.obs s.abs := He.obsX_eq (HandSHeadRun.getT_eq s)
def loose0 : List Str := ["TautError", "InvalidPiece", "is_whole", "is_tuple_of", "is_ascending", "FAR", "CELLS", "is_cell", "are_cells", "neighbours_of", "corners_of", "do_hang", "counts_in", "is_piece", "need_piece", "placed_in", "turned_in", "mirrored_in", "forms_of", "placed", "turned", "mirrored", "least_in", "least_form", "are_alike", "symmetries", "_law_cup", "_law_roll", "_law_some", "_law_sort"]
def loose1 : List Str := ["_law_like", "_law_grown", "_law_stays", "_law_placed", "_law_turned", "_law_mirrored", "_law_stairs", "_law_error", "_law_forms", "_law_right"]
def loose : List Str := loose0 ++ loose1
theorem run (w : World) : HandSHeadRun.RunEq RO (PySem.W.view RO.prog [45]) hk ob 6000 loose w := by
  intro os
  kernel_rfl
theorem facts_of {w : World} {K : PySem.W.Frag} {h : Heap} {mg : Str → Option Value} (X : K.In h) (G : h.Ns mainGlobals mg) (c : He.SaysX fa fn [] tf ex w h K) : Facts K mg where
  b_isinstance := He.free_ok X G (c.t.d.fact 0 (f := .free "isinstance") rfl)
  b_int := He.free_ok X G (c.t.d.fact 1 (f := .free "int") rfl)
  b_bool := He.free_ok X G (c.t.d.fact 2 (f := .free "bool") rfl)
  b_tuple := He.free_ok X G (c.t.d.fact 3 (f := .free "tuple") rfl)
  b_len := He.free_ok X G (c.t.d.fact 4 (f := .free "len") rfl)
  b_zip := He.free_ok X G (c.t.d.fact 5 (f := .free "zip") rfl)
  b_all := He.free_ok X G (c.t.d.fact 6 (f := .free "all") rfl)
  c_FAR := He.int_ok X G (c.t.d.fact 7 (f := .int "FAR" (1000)) rfl)
  c_CELLS := He.int_ok X G (c.t.d.fact 8 (f := .int "CELLS" (60)) rfl)
  b_dict := He.free_ok X G (c.t.d.fact 9 (f := .free "dict") rfl)
  b_range := He.free_ok X G (c.t.d.fact 10 (f := .free "range") rfl)
  b_max := He.free_ok X G (c.t.d.fact 11 (f := .free "max") rfl)
  b_min := He.free_ok X G (c.t.d.fact 12 (f := .free "min") rfl)
  e_InvalidPiece := He.exc_ok (c.t.d.fact 13 (f := .exc "InvalidPiece") rfl)
  g_InvalidPiece := He.glo_ok X G (c.t.d.fact 14 (f := .glo "InvalidPiece") rfl)
  b_sorted := He.free_ok X G (c.t.d.fact 15 (f := .free "sorted") rfl)
  b_list := He.free_ok X G (c.t.d.fact 16 (f := .free "list") rfl)
  b_abs := He.free_ok X G (c.t.d.fact 17 (f := .free "abs") rfl)
  b_str := He.free_ok X G (c.t.d.fact 18 (f := .free "str") rfl)
  g_symmetries := He.glo_ok X G (c.t.d.fact 19 (f := .glo "symmetries") rfl)
  g_least_form := He.glo_ok X G (c.t.d.fact 20 (f := .glo "least_form") rfl)
  g_mirrored := He.glo_ok X G (c.t.d.fact 21 (f := .glo "mirrored") rfl)
  g_turned := He.glo_ok X G (c.t.d.fact 22 (f := .glo "turned") rfl)
  g_placed := He.glo_ok X G (c.t.d.fact 23 (f := .glo "placed") rfl)
  g_is_whole := He.glo_ok X G (c.t.d.fact 24 (f := .glo "is_whole") rfl)
  d_is_whole := c.t.d.def_ 0 (d := dD "is_whole" s_is_whole) rfl
  g_is_tuple_of := He.glo_ok X G (c.t.d.fact 25 (f := .glo "is_tuple_of") rfl)
  d_is_tuple_of := c.t.d.def_ 1 (d := dD "is_tuple_of" s_is_tuple_of) rfl
  g_is_ascending := He.glo_ok X G (c.t.d.fact 26 (f := .glo "is_ascending") rfl)
  d_is_ascending := c.t.d.def_ 2 (d := dD "is_ascending" s_is_ascending) rfl
  g_is_cell := He.glo_ok X G (c.t.d.fact 27 (f := .glo "is_cell") rfl)
  d_is_cell := c.t.d.def_ 3 (d := dD "is_cell" s_is_cell) rfl
  g_are_cells := He.glo_ok X G (c.t.d.fact 28 (f := .glo "are_cells") rfl)
  d_are_cells := c.t.d.def_ 4 (d := dD "are_cells" s_are_cells) rfl
  g_neighbours_of := He.glo_ok X G (c.t.d.fact 29 (f := .glo "neighbours_of") rfl)
  d_neighbours_of := c.t.d.def_ 5 (d := dD "neighbours_of" s_neighbours_of) rfl
  g_corners_of := He.glo_ok X G (c.t.d.fact 30 (f := .glo "corners_of") rfl)
  d_corners_of := c.t.d.def_ 6 (d := dD "corners_of" s_corners_of) rfl
  g_do_hang := He.glo_ok X G (c.t.d.fact 31 (f := .glo "do_hang") rfl)
  d_do_hang := c.t.d.def_ 7 (d := dD "do_hang" s_do_hang) rfl
  g_counts_in := He.glo_ok X G (c.t.d.fact 32 (f := .glo "counts_in") rfl)
  d_counts_in := c.t.d.def_ 8 (d := dD "counts_in" s_counts_in) rfl
  g_is_piece := He.glo_ok X G (c.t.d.fact 33 (f := .glo "is_piece") rfl)
  d_is_piece := c.t.d.def_ 9 (d := dD "is_piece" s_is_piece) rfl
  g_need_piece := He.glo_ok X G (c.t.d.fact 34 (f := .glo "need_piece") rfl)
  d_need_piece := c.t.d.def_ 10 (d := dD "need_piece" s_need_piece) rfl
  g_placed_in := He.glo_ok X G (c.t.d.fact 35 (f := .glo "placed_in") rfl)
  d_placed_in := c.t.d.def_ 11 (d := dD "placed_in" s_placed_in) rfl
  g_turned_in := He.glo_ok X G (c.t.d.fact 36 (f := .glo "turned_in") rfl)
  d_turned_in := c.t.d.def_ 12 (d := dD "turned_in" s_turned_in) rfl
  g_mirrored_in := He.glo_ok X G (c.t.d.fact 37 (f := .glo "mirrored_in") rfl)
  d_mirrored_in := c.t.d.def_ 13 (d := dD "mirrored_in" s_mirrored_in) rfl
  g_forms_of := He.glo_ok X G (c.t.d.fact 38 (f := .glo "forms_of") rfl)
  d_forms_of := c.t.d.def_ 14 (d := dD "forms_of" s_forms_of) rfl
  d_placed := c.t.d.def_ 15 (d := dD "placed" s_placed) rfl
  d_turned := c.t.d.def_ 16 (d := dD "turned" s_turned) rfl
  d_mirrored := c.t.d.def_ 17 (d := dD "mirrored" s_mirrored) rfl
  g_least_in := He.glo_ok X G (c.t.d.fact 39 (f := .glo "least_in") rfl)
  d_least_in := c.t.d.def_ 18 (d := dD "least_in" s_least_in) rfl
  d_least_form := c.t.d.def_ 19 (d := dD "least_form" s_least_form) rfl
  g_are_alike := He.glo_ok X G (c.t.d.fact 40 (f := .glo "are_alike") rfl)
  d_are_alike := c.t.d.def_ 20 (d := dD "are_alike" s_are_alike) rfl
  d_symmetries := c.t.d.def_ 21 (d := dD "symmetries" s_symmetries) rfl
  g__law_cup := He.glo_ok X G (c.t.d.fact 41 (f := .glo "_law_cup") rfl)
  d__law_cup := c.t.d.def_ 22 (d := dD "_law_cup" s__law_cup) rfl
  g__law_roll := He.glo_ok X G (c.t.d.fact 42 (f := .glo "_law_roll") rfl)
  d__law_roll := c.t.d.def_ 23 (d := dD "_law_roll" s__law_roll) rfl
  g__law_some := He.glo_ok X G (c.t.d.fact 43 (f := .glo "_law_some") rfl)
  d__law_some := c.t.d.def_ 24 (d := dD "_law_some" s__law_some) rfl
  g__law_sort := He.glo_ok X G (c.t.d.fact 44 (f := .glo "_law_sort") rfl)
  d__law_sort := c.t.d.def_ 25 (d := dD "_law_sort" s__law_sort) rfl
  g__law_like := He.glo_ok X G (c.t.d.fact 45 (f := .glo "_law_like") rfl)
  d__law_like := c.t.d.def_ 26 (d := dD "_law_like" s__law_like) rfl
  g__law_stays := He.glo_ok X G (c.t.d.fact 46 (f := .glo "_law_stays") rfl)
  d__law_stays := c.t.d.def_ 28 (d := dD "_law_stays" s__law_stays) rfl
  g__law_grown := He.glo_ok X G (c.t.d.fact 47 (f := .glo "_law_grown") rfl)
  d__law_grown := c.t.d.def_ 27 (d := dD "_law_grown" s__law_grown) rfl
  g__law_placed := He.glo_ok X G (c.t.d.fact 48 (f := .glo "_law_placed") rfl)
  d__law_placed := c.t.d.def_ 29 (d := dD "_law_placed" s__law_placed) rfl
  g__law_turned := He.glo_ok X G (c.t.d.fact 49 (f := .glo "_law_turned") rfl)
  d__law_turned := c.t.d.def_ 30 (d := dD "_law_turned" s__law_turned) rfl
  g__law_mirrored := He.glo_ok X G (c.t.d.fact 50 (f := .glo "_law_mirrored") rfl)
  d__law_mirrored := c.t.d.def_ 31 (d := dD "_law_mirrored" s__law_mirrored) rfl
  g__law_stairs := He.glo_ok X G (c.t.d.fact 51 (f := .glo "_law_stairs") rfl)
  d__law_stairs := c.t.d.def_ 32 (d := dD "_law_stairs" s__law_stairs) rfl
  g__law_error := He.glo_ok X G (c.t.d.fact 52 (f := .glo "_law_error") rfl)
  d__law_error := c.t.d.def_ 33 (d := dD "_law_error" s__law_error) rfl
  g_TautError := He.glo_ok X G (c.t.d.fact 53 (f := .glo "TautError") rfl)
  g__law_forms := He.glo_ok X G (c.t.d.fact 54 (f := .glo "_law_forms") rfl)
  d__law_forms := c.t.d.def_ 34 (d := dD "_law_forms" s__law_forms) rfl
  g__law_right := He.glo_ok X G (c.t.d.fact 55 (f := .glo "_law_right") rfl)
  d__law_right := c.t.d.def_ 35 (d := dD "_law_right" s__law_right) rfl
  g_law := He.glo_ok X G (c.t.d.fact 56 (f := .glo "law") rfl)
  d_law := c.t.d.def_ 36 (d := dD "law" s_law) rfl
  x_InvalidPiece := He.exm_ok (c.t.d.fact 57 (f := .exm "InvalidPiece" "TautError" true) rfl)
  i_InvalidPiece := excCB_ok (exAt 0 c.more)
  k_InvalidPiece_CC_InvalidPiece := of_decide_eq_true (exAt 1 c.more)
theorem bindL {K : PySem.W.Frag} {f : Addr} {fd : FuncData} (F : FunD K "law" "law" (defArgs s_law) (defBody s_law) (defScope s_law) [] [] f fd) (s : Shared) (u : Value) : BindsTo s fd ⟨[u], []⟩ [("script", u)] := F.bindsA (ps := ["script"]) (fun _ _ _ _ _ _ us hl => match us, hl with | [_], _ => rfl) s [u] rfl
/-- the law's meaning at every script is True: the row holds -/
theorem holds_of (hm : ∀ ns : List Int, ns.length ≤ 63 → (∀ z ∈ ns, Builtin.Int.intBits z ≤ 1048576) → ∃ o, f_law.m [scD ns] = .ok (.bool true, o)) : PySem.Challenge.rw_tautlines_k75_whole_likenesses.Holds := by
  open PySem.W in
  w_on; o_law
  refine HandSHeadRun.head_any (r := RO) (q := PySem.W.view RO.prog [45]) (H := hk) (ob := ob) (M := 6000) (loose := loose) (d := HandSHeadRun.topDef RO.prog 45) (kwd := []) ob_eq
    (by kernel_rfl) (fun s => by kernel_rfl) run (by kernel_rfl) (by kernel_rfl) (by kernel_rfl) (by rfl) (by first | assumption | decide +kernel) (by decide +kernel) ⟨rfl, rfl, rfl, rfl, rfl, by decide +kernel⟩ ?hw ?hc
  case hw => w_witness2
  case hc =>
    refine LamX.walk_ofTsE (l := PySem.Challenge.rw_tautlines_k75_whole_likenesses) (n := 63) (k := 14) (x := "script") (CX := fun w => L2N.CX PR w) rfl (by decide) (by kernel_rfl) ⟨rfl, by decide, by decide⟩ ?F (fun _ _ _ _ _ z => by obtain ⟨_, _, _, _, _, _, _, _, _, _, _, _, z⟩ := z; exact z)
    intro w mg fa0 h Y G hmg0
    letI : WC := ⟨w⟩
    obtain ⟨K, KX, c⟩ := Y
    have C := facts_of KX G c
    have hmg : mg ("law" : PySem.Str) = some (.ref fa0) := by
      have e : (HandSHeadRun.topDef RO.prog 45).name = ("law" : PySem.Str) := by kernel_rfl
      rw [← e]
      exact hmg0
    have hg := C.g_law
    obtain ⟨fd, Fd⟩ := C.d_law
    rw [hmg] at hg
    cases hg
    refine ⟨K, KX, fd, tf.map (He.cT K), spF K mg (T0of K) f_law, fun p hp => ?_, fun p hp => ?_, fun p hp => ?_, bindL Fd, fun H a ns hl hbits hT hS => ?_, fun base b1 b2 b3 => ?_⟩
    · obtain ⟨y, hy, rfl⟩ := List.mem_map.mp hp; exact c.empty y hy
    · obtain ⟨y, hy, rfl⟩ := List.mem_map.mp hp; exact c.out y hy
    · obtain ⟨y, hy, rfl⟩ := List.mem_map.mp hp; exact PySem.W.codeHd_of_K KX (c.hd y hy)
    · obtain ⟨o, ho⟩ := hm ns hl hbits
      exact sp_law ho (fun p hp => by
        unfold T0of at hp
        simp only [List.mem_cons, List.not_mem_nil, or_false] at hp
        rcases hp with rfl
        · exact hT (He.cT K ("law", none)) (List.mem_map.mpr ⟨("law", none), by simp [tf], rfl⟩)) hS
    · exact F_law C (fun x hx => b3 (He.cT K (x, none)) (List.mem_map.mpr ⟨(x, none), by revert hx; simp [tf], rfl⟩)) Fd
end WL

set_option Elab.async false
set_option linter.all false
set_option maxRecDepth 100000
set_option maxHeartbeats 4000000
/-! cells, pieces: plain. -/
namespace Pc
/-! ### distinct items -/
section
variable {α β : Type} [DecidableEq α] [DecidableEq β]
def addK (l : List α) (k : α) : List α := if k ∈ l then l else l ++ [k]
def dd (l : List α) : List α := l.foldl addK []
theorem mem_addK {l : List α} {k x : α} : x ∈ addK l k ↔ x ∈ l ∨ x = k := by
  unfold addK
  split
  · rename_i h
    exact ⟨.inl, fun z => z.elim id fun e => by rw [e]; exact h⟩
  · simp
theorem mem_fold {l : List α} : ∀ {acc : List α} {x : α}, x ∈ l.foldl addK acc ↔ x ∈ acc ∨ x ∈ l := by
  induction l with
  | nil => intro acc x; simp
  | cons k l ih => intro acc x; rw [List.foldl_cons, ih, mem_addK, List.mem_cons, or_assoc]
theorem mem_dd {l : List α} {x : α} : x ∈ dd l ↔ x ∈ l := by unfold dd; rw [mem_fold]; simp
theorem nodup_addK {l : List α} {k : α} (h : l.Nodup) : (addK l k).Nodup := by
  unfold addK
  split
  · exact h
  · rename_i hk
    rw [List.nodup_append]
    refine ⟨h, by simp, fun a ha b hb => ?_⟩
    rw [List.mem_singleton] at hb
    subst hb
    intro e
    subst e
    exact hk ha
theorem nodup_fold {l : List α} : ∀ {acc : List α}, acc.Nodup → (l.foldl addK acc).Nodup := by
  induction l with
  | nil => intro acc h; exact h
  | cons k l ih => intro acc h; exact ih (nodup_addK h)
theorem nodup_dd (l : List α) : (dd l).Nodup := nodup_fold .nil
theorem len_sub : ∀ {a b : List α}, a.Nodup → (∀ x ∈ a, x ∈ b) → a.length ≤ b.length
  | [], b, _, _ => Nat.zero_le _
  | x :: a, b, h, s => by
    obtain ⟨h1, h2⟩ := List.nodup_cons.mp h
    have hx := s x List.mem_cons_self
    have := len_sub (a := a) (b := b.erase x) h2 fun y hy => (List.mem_erase_of_ne (by intro e; subst e; exact h1 hy)).mpr (s y (List.mem_cons_of_mem _ hy))
    rw [List.length_erase_of_mem hx] at this
    have h0 := List.length_pos_of_mem hx
    rw [List.length_cons]
    omega
theorem dd_len {l m : List α} (h : ∀ x, x ∈ l ↔ x ∈ m) : (dd l).length = (dd m).length :=
  Nat.le_antisymm (len_sub (nodup_dd _) fun x hx => mem_dd.mpr ((h x).mp (mem_dd.mp hx))) (len_sub (nodup_dd _) fun x hx => mem_dd.mpr ((h x).mpr (mem_dd.mp hx)))
theorem dd_map {l : List α} {m : List β} (f : α → β) (inj : ∀ a b, f a = f b → a = b) (h : ∀ x ∈ l, f x ∈ m) : (dd l).length ≤ (dd m).length := by
  have hn : ((dd l).map f).Nodup := List.Pairwise.map f (fun a b hne e => hne (inj a b e)) (nodup_dd l)
  have := len_sub (b := dd m) hn fun x hx => by
    obtain ⟨y, hy, rfl⟩ := List.mem_map.mp hx
    exact mem_dd.mpr (h y (mem_dd.mp hy))
  rwa [List.length_map] at this
theorem fold_len {l : List α} : ∀ {acc : List α}, l.Nodup → (l.foldl addK acc).length = acc.length + (l.filter fun k => !decide (k ∈ acc)).length := by
  induction l with
  | nil => intro acc _; simp
  | cons k l ih =>
    intro acc h
    obtain ⟨h1, h2⟩ := List.nodup_cons.mp h
    rw [List.foldl_cons, ih h2]
    have e : l.filter (fun x => !decide (x ∈ addK acc k)) = l.filter fun x => !decide (x ∈ acc) := by
      apply List.filter_congr
      intro x hx
      have : x ≠ k := fun e => h1 (e ▸ hx)
      congr 1
      rw [decide_eq_decide, mem_addK]
      simp [this]
    rw [e]
    unfold addK
    by_cases hk : k ∈ acc
    · rw [if_pos hk, List.filter_cons_of_neg (by simp [hk])]
    · rw [if_neg hk, List.filter_cons_of_pos (by simp [hk]), List.length_append, List.length_cons, List.length_cons, List.length_nil]
      omega
theorem dd_app {l m : List α} (h : m.Nodup) : (dd (l ++ m)).length = (dd l).length + (m.filter fun k => !decide (k ∈ l)).length := by
  unfold dd
  rw [List.foldl_append, fold_len h]
  congr 2
  apply List.filter_congr
  intro x _
  congr 1
  rw [decide_eq_decide]
  exact mem_dd
end
/-! ### corners, sides -/
abbrev Ce := Int × Int
def crn (c : Ce) : List Ce := [(c.1, c.2), (c.1 + 1, c.2), (c.1 + 1, c.2 + 1), (c.1, c.2 + 1)]
def sds (c : Ce) : List (Ce × Ce) := [((c.1, c.2), (c.1 + 1, c.2)), ((c.1 + 1, c.2), (c.1 + 1, c.2 + 1)), ((c.1, c.2 + 1), (c.1 + 1, c.2 + 1)), ((c.1, c.2), (c.1, c.2 + 1))]
def nV (P : List Ce) : Nat := (dd (P.flatMap crn)).length
def nE (P : List Ce) : Nat := (dd (P.flatMap sds)).length
def chi (P : List Ce) : Int := (nV P : Int) - nE P + P.length
theorem flat_mem {α : Type} {f : Ce → List α} {P R : List Ce} (h : ∀ x, x ∈ P ↔ x ∈ R) (x : α) : x ∈ P.flatMap f ↔ x ∈ R.flatMap f := by
  simp only [List.mem_flatMap]
  exact ⟨fun ⟨c, h1, h2⟩ => ⟨c, (h c).mp h1, h2⟩, fun ⟨c, h1, h2⟩ => ⟨c, (h c).mpr h1, h2⟩⟩
theorem nV_mem {P R : List Ce} (h : ∀ x, x ∈ P ↔ x ∈ R) : nV P = nV R := dd_len (flat_mem h)
theorem nE_mem {P R : List Ce} (h : ∀ x, x ∈ P ↔ x ∈ R) : nE P = nE R := dd_len (flat_mem h)
theorem chi_perm {P R : List Ce} (h : P.Perm R) : chi P = chi R := by
  unfold chi
  rw [nV_mem fun x => h.mem_iff, nE_mem fun x => h.mem_iff, h.length_eq]
/-! turned, mirrored, moved -/
def tq (c : Ce) : Ce := (-c.2, c.1)
def mq (c : Ce) : Ce := (-c.1, c.2)
def sh (v c : Ce) : Ce := (c.1 + v.1, c.2 + v.2)
theorem nV_le (g f : Ce → Ce) (inj : ∀ a b, f a = f b → a = b) (h : ∀ c k, k ∈ crn c → f k ∈ crn (g c)) (P : List Ce) : nV P ≤ nV (P.map g) :=
  dd_map f inj fun x hx => by
    obtain ⟨c, h1, h2⟩ := List.mem_flatMap.mp hx
    exact List.mem_flatMap.mpr ⟨g c, List.mem_map.mpr ⟨c, h1, rfl⟩, h c x h2⟩
theorem nE_le (g : Ce → Ce) (f : Ce × Ce → Ce × Ce) (inj : ∀ a b, f a = f b → a = b) (h : ∀ c k, k ∈ sds c → f k ∈ sds (g c)) (P : List Ce) : nE P ≤ nE (P.map g) :=
  dd_map f inj fun x hx => by
    obtain ⟨c, h1, h2⟩ := List.mem_flatMap.mp hx
    exact List.mem_flatMap.mpr ⟨g c, List.mem_map.mpr ⟨c, h1, rfl⟩, h c x h2⟩
theorem nV_tq_le (P : List Ce) : nV P ≤ nV (P.map tq) := nV_le tq (fun p => (-p.2 + 1, p.1)) (fun a b e => by
    simp only [Prod.mk.injEq] at e
    apply Prod.ext <;> omega) (fun c k hk => by
    simp only [crn, tq, List.mem_cons, List.not_mem_nil, or_false] at hk ⊢
    rcases hk with rfl | rfl | rfl | rfl <;> simp <;> omega) P
theorem nV_mq_le (P : List Ce) : nV P ≤ nV (P.map mq) := nV_le mq (fun p => (-p.1 + 1, p.2)) (fun a b e => by
    simp only [Prod.mk.injEq] at e
    apply Prod.ext <;> omega) (fun c k hk => by
    simp only [crn, mq, List.mem_cons, List.not_mem_nil, or_false] at hk ⊢
    rcases hk with rfl | rfl | rfl | rfl <;> simp <;> omega) P
theorem nV_sh_le (v : Ce) (P : List Ce) : nV P ≤ nV (P.map (sh v)) := nV_le (sh v) (sh v) (fun a b e => by
    simp only [sh, Prod.mk.injEq] at e
    apply Prod.ext <;> omega) (fun c k hk => by
    simp only [crn, sh, List.mem_cons, List.not_mem_nil, or_false] at hk ⊢
    rcases hk with rfl | rfl | rfl | rfl <;> simp <;> omega) P
def tE (s : Ce × Ce) : Ce × Ce := if s.1.1 = s.2.1 then ((-s.2.2 + 1, s.2.1), (-s.1.2 + 1, s.1.1)) else ((-s.1.2 + 1, s.1.1), (-s.2.2 + 1, s.2.1))
def mE (s : Ce × Ce) : Ce × Ce := if s.1.1 = s.2.1 then ((-s.1.1 + 1, s.1.2), (-s.2.1 + 1, s.2.2)) else ((-s.2.1 + 1, s.2.2), (-s.1.1 + 1, s.1.2))
theorem nE_tq_le (P : List Ce) : nE P ≤ nE (P.map tq) := nE_le tq tE (fun a b e => by
    obtain ⟨⟨a1, a2⟩, a3, a4⟩ := a
    obtain ⟨⟨b1, b2⟩, b3, b4⟩ := b
    simp only [tE] at e
    split at e <;> split at e <;> simp only [Prod.mk.injEq] at e ⊢ <;> omega) (fun c k hk => by
    simp only [sds, tq, List.mem_cons, List.not_mem_nil, or_false] at hk ⊢
    rcases hk with rfl | rfl | rfl | rfl <;> simp only [tE] <;> split <;> rename_i hh <;> first | (exfalso; simp at hh; done) | (exfalso; simp at hh; omega) | (simp; done) | (simp; omega)) P
theorem nE_mq_le (P : List Ce) : nE P ≤ nE (P.map mq) := nE_le mq mE (fun a b e => by
    obtain ⟨⟨a1, a2⟩, a3, a4⟩ := a
    obtain ⟨⟨b1, b2⟩, b3, b4⟩ := b
    simp only [mE] at e
    split at e <;> split at e <;> simp only [Prod.mk.injEq] at e ⊢ <;> omega) (fun c k hk => by
    simp only [sds, mq, List.mem_cons, List.not_mem_nil, or_false] at hk ⊢
    rcases hk with rfl | rfl | rfl | rfl <;> simp only [mE] <;> split <;> rename_i hh <;> first | (exfalso; simp at hh; done) | (exfalso; simp at hh; omega) | (simp; done) | (simp; omega)) P
theorem nE_sh_le (v : Ce) (P : List Ce) : nE P ≤ nE (P.map (sh v)) := nE_le (sh v) (fun s => (sh v s.1, sh v s.2)) (fun a b e => by
    obtain ⟨⟨a1, a2⟩, a3, a4⟩ := a
    obtain ⟨⟨b1, b2⟩, b3, b4⟩ := b
    simp only [sh, Prod.mk.injEq] at e ⊢
    omega) (fun c k hk => by
    simp only [sds, sh, List.mem_cons, List.not_mem_nil, or_false] at hk ⊢
    rcases hk with rfl | rfl | rfl | rfl <;> simp <;> omega) P
theorem four {n : List Ce → Nat} (h : ∀ P, n P ≤ n (P.map tq)) (P : List Ce) : n (P.map tq) = n P := by
  have e : (((P.map tq).map tq).map tq).map tq = P := by
    simp only [List.map_map]
    conv => rhs; rw [← List.map_id P]
    apply List.map_congr_left
    intro c _
    simp [tq]
  have h1 := h P
  have h2 := h (P.map tq)
  have h3 := h ((P.map tq).map tq)
  have h4 := h (((P.map tq).map tq).map tq)
  rw [e] at h4
  omega
theorem two {n : List Ce → Nat} (h : ∀ P, n P ≤ n (P.map mq)) (P : List Ce) : n (P.map mq) = n P := by
  have e : (P.map mq).map mq = P := by
    simp only [List.map_map]
    conv => rhs; rw [← List.map_id P]
    apply List.map_congr_left
    intro c _
    simp [mq]
  have h1 := h P
  have h2 := h (P.map mq)
  rw [e] at h2
  omega
theorem back {n : List Ce → Nat} (h : ∀ v P, n P ≤ n (P.map (sh v))) (v : Ce) (P : List Ce) : n (P.map (sh v)) = n P := by
  have e : (P.map (sh v)).map (sh (-v.1, -v.2)) = P := by
    simp only [List.map_map]
    conv => rhs; rw [← List.map_id P]
    apply List.map_congr_left
    intro c _
    apply Prod.ext <;> simp [sh] <;> omega
  have h1 := h v P
  have h2 := h (-v.1, -v.2) (P.map (sh v))
  rw [e] at h2
  omega
theorem chi_tq (P : List Ce) : chi (P.map tq) = chi P := by unfold chi; rw [four nV_tq_le, four nE_tq_le, List.length_map]
theorem chi_mq (P : List Ce) : chi (P.map mq) = chi P := by unfold chi; rw [two nV_mq_le, two nE_mq_le, List.length_map]
theorem chi_sh (v : Ce) (P : List Ce) : chi (P.map (sh v)) = chi P := by unfold chi; rw [back nV_sh_le, back nE_sh_le, List.length_map]
/-! ### hanging together -/
def nb (c : Ce) : List Ce := [(c.1, c.2 - 1), (c.1 + 1, c.2), (c.1, c.2 + 1), (c.1 - 1, c.2)]
inductive Reach (P : List Ce) (a : Ce) : Ce → Prop
  | refl : Reach P a a
  | step {b c : Ce} : Reach P a b → c ∈ nb b → c ∈ P → Reach P a c
theorem nb_sym {b c : Ce} (h : c ∈ nb b) : b ∈ nb c := by
  simp only [nb, List.mem_cons, List.not_mem_nil, or_false] at h ⊢
  rcases h with rfl | rfl | rfl | rfl
  · exact .inr (.inr (.inl (by apply Prod.ext <;> simp)))
  · exact .inr (.inr (.inr (by apply Prod.ext <;> simp)))
  · exact .inl (by apply Prod.ext <;> simp)
  · exact .inr (.inl (by apply Prod.ext <;> simp))
theorem Reach.trans {P : List Ce} {a b c : Ce} (h : Reach P a b) (k : Reach P b c) : Reach P a c := by
  induction k with
  | refl => exact h
  | step _ h1 h2 ih => exact .step ih h1 h2
theorem Reach.mono {P R : List Ce} (s : ∀ x ∈ P, x ∈ R) {a b : Ce} (h : Reach P a b) : Reach R a b := by
  induction h with
  | refl => exact .refl
  | step _ h1 h2 ih => exact .step ih h1 (s _ h2)
theorem Reach.memR {P : List Ce} {a b : Ce} (h : Reach P a b) (ha : a ∈ P) : b ∈ P := by
  cases h with
  | refl => exact ha
  | step _ _ h2 => exact h2
theorem Reach.symm {P : List Ce} {a b : Ce} (h : Reach P a b) (ha : a ∈ P) : Reach P b a := by
  induction h with
  | refl => exact .refl
  | step h0 h1 h2 ih => exact Reach.trans (.step .refl (nb_sym h1) (h0.memR ha)) ih
def Hang (P : List Ce) : Prop := ∀ a ∈ P, ∀ b ∈ P, Reach P a b
theorem Hang.mem {P R : List Ce} (e : ∀ x, x ∈ P ↔ x ∈ R) (h : Hang P) : Hang R := fun a ha b hb => (h a ((e a).mpr ha) b ((e b).mpr hb)).mono fun x hx => (e x).mp hx
theorem Hang.one (c : Ce) : Hang [c] := fun a ha b hb => by
  rw [List.mem_singleton] at ha hb
  rw [ha, hb]
  exact .refl
theorem Hang.grow {P : List Ce} {b c : Ce} (h : Hang P) (hb : b ∈ P) (hc : c ∈ nb b) : Hang (P ++ [c]) := by
  have s : ∀ x ∈ P, x ∈ P ++ [c] := fun x hx => List.mem_append_left _ hx
  have hc' : c ∈ P ++ [c] := List.mem_append_right _ List.mem_cons_self
  have to : ∀ x ∈ P ++ [c], Reach (P ++ [c]) b x := fun x hx => by
    rcases List.mem_append.mp hx with hx | hx
    · exact (h b hb x hx).mono s
    · rw [List.mem_singleton] at hx
      rw [hx]
      exact .step .refl hc hc'
  exact fun x hx y hy => ((to x hx).symm (s b hb)).trans (to y hy)
theorem Hang.map {P : List Ce} (g : Ce → Ce) (hg : ∀ b c, c ∈ nb b → g c ∈ nb (g b)) (h : Hang P) : Hang (P.map g) := by
  have key : ∀ a b, Reach P a b → Reach (P.map g) (g a) (g b) := fun a b r => by
    induction r with
    | refl => exact .refl
    | step _ h1 h2 ih => exact .step ih (hg _ _ h1) (List.mem_map.mpr ⟨_, h2, rfl⟩)
  intro x hx y hy
  obtain ⟨a, ha, rfl⟩ := List.mem_map.mp hx
  obtain ⟨b, hb, rfl⟩ := List.mem_map.mp hy
  exact key a b (h a ha b hb)
theorem nb_tq (b c : Ce) (h : c ∈ nb b) : tq c ∈ nb (tq b) := by
  simp only [nb, tq, List.mem_cons, List.not_mem_nil, or_false] at h ⊢
  rcases h with rfl | rfl | rfl | rfl <;> simp <;> omega
theorem nb_mq (b c : Ce) (h : c ∈ nb b) : mq c ∈ nb (mq b) := by
  simp only [nb, mq, List.mem_cons, List.not_mem_nil, or_false] at h ⊢
  rcases h with rfl | rfl | rfl | rfl <;> simp <;> omega
theorem nb_sh (v b c : Ce) (h : c ∈ nb b) : sh v c ∈ nb (sh v b) := by
  simp only [nb, sh, List.mem_cons, List.not_mem_nil, or_false] at h ⊢
  rcases h with rfl | rfl | rfl | rfl <;> simp <;> omega
/-- each cell lies beside one before it -/
def ordB : List Ce → List Ce → Bool
  | _, [] => true
  | P, c :: r => (P.any fun b => decide (c ∈ nb b)) && ordB (P ++ [c]) r
theorem ordB_hang : ∀ (r P : List Ce), Hang P → ordB P r = true → Hang (P ++ r)
  | [], P, h, _ => by rw [List.append_nil]; exact h
  | c :: r, P, h, e => by
    simp only [ordB, Bool.and_eq_true, List.any_eq_true, decide_eq_true_eq] at e
    obtain ⟨⟨b, hb, hc⟩, e2⟩ := e
    have := ordB_hang r (P ++ [c]) (h.grow hb hc) e2
    rwa [List.append_assoc, List.singleton_append] at this
end Pc

set_option Elab.async false
set_option linter.all false
set_option maxRecDepth 100000
set_option maxHeartbeats 4000000
/-! a cell more. -/
namespace Pc
theorem crn_mem {P : List Ce} {a b : Int} : (a, b) ∈ P.flatMap crn ↔ (a, b) ∈ P ∨ (a - 1, b) ∈ P ∨ (a - 1, b - 1) ∈ P ∨ (a, b - 1) ∈ P := by
  rw [List.mem_flatMap]
  constructor
  · rintro ⟨⟨x, y⟩, h, k⟩
    simp only [crn, List.mem_cons, List.not_mem_nil, or_false, Prod.mk.injEq] at k
    rcases k with ⟨rfl, rfl⟩ | ⟨rfl, rfl⟩ | ⟨rfl, rfl⟩ | ⟨rfl, rfl⟩
    · exact .inl h
    · exact .inr (.inl (by rw [show x + 1 - 1 = x by omega]; exact h))
    · exact .inr (.inr (.inl (by rw [show x + 1 - 1 = x by omega, show y + 1 - 1 = y by omega]; exact h)))
    · exact .inr (.inr (.inr (by rw [show y + 1 - 1 = y by omega]; exact h)))
  · rintro (h | h | h | h)
    · exact ⟨_, h, by simp [crn]⟩
    · exact ⟨_, h, by simp [crn]⟩
    · exact ⟨_, h, by simp [crn]⟩
    · exact ⟨_, h, by simp [crn]⟩
theorem sdh_mem {P : List Ce} {a b : Int} : ((a, b), (a + 1, b)) ∈ P.flatMap sds ↔ (a, b) ∈ P ∨ (a, b - 1) ∈ P := by
  rw [List.mem_flatMap]
  constructor
  · rintro ⟨⟨x, y⟩, h, k⟩
    simp only [sds, List.mem_cons, List.not_mem_nil, or_false, Prod.mk.injEq] at k
    rcases k with ⟨⟨rfl, rfl⟩, _⟩ | ⟨⟨rfl, rfl⟩, h1, _⟩ | ⟨⟨rfl, rfl⟩, _⟩ | ⟨⟨rfl, rfl⟩, h1, _⟩
    · exact .inl h
    · omega
    · exact .inr (by rw [show y + 1 - 1 = y by omega]; exact h)
    · omega
  · rintro (h | h)
    · exact ⟨_, h, by simp [sds]⟩
    · exact ⟨_, h, by simp [sds]⟩
theorem sdv_mem {P : List Ce} {a b : Int} : ((a, b), (a, b + 1)) ∈ P.flatMap sds ↔ (a, b) ∈ P ∨ (a - 1, b) ∈ P := by
  rw [List.mem_flatMap]
  constructor
  · rintro ⟨⟨x, y⟩, h, k⟩
    simp only [sds, List.mem_cons, List.not_mem_nil, or_false, Prod.mk.injEq] at k
    rcases k with ⟨⟨rfl, rfl⟩, h1, _⟩ | ⟨⟨rfl, rfl⟩, h1, _⟩ | ⟨⟨rfl, rfl⟩, h1, _⟩ | ⟨⟨rfl, rfl⟩, h1, _⟩
    · omega
    · exact .inr (by rw [show x + 1 - 1 = x by omega]; exact h)
    · omega
    · exact .inl h
  · rintro (h | h)
    · exact ⟨_, h, by simp [sds]⟩
    · exact ⟨_, h, by simp [sds]⟩
theorem filter4 {α : Type} (p : α → Bool) (a b c d : α) : ([a, b, c, d].filter p).length = (p a).toNat + (p b).toNat + (p c).toNat + (p d).toNat := by
  simp only [List.filter_cons, List.filter_nil]
  cases p a <;> cases p b <;> cases p c <;> cases p d <;> rfl
theorem crn_nodup (c : Ce) : (crn c).Nodup := by
  unfold crn
  simp only [List.nodup_cons, List.mem_cons, List.not_mem_nil, or_false, Prod.mk.injEq, not_false_eq_true, List.nodup_nil, and_true]
  omega
theorem sds_nodup (c : Ce) : (sds c).Nodup := by
  unfold sds
  simp only [List.nodup_cons, List.mem_cons, List.not_mem_nil, or_false, Prod.mk.injEq, not_false_eq_true, List.nodup_nil, and_true]
  omega
def around (c : Ce) : List Ce := [(c.1 + 1, c.2), (c.1 + 1, c.2 + 1), (c.1, c.2 + 1), (c.1 - 1, c.2 + 1), (c.1 - 1, c.2), (c.1 - 1, c.2 - 1), (c.1, c.2 - 1), (c.1 + 1, c.2 - 1)]
/-- the flags: one change of kind or none, no lone corner -/
def okF (l : List Bool) : Bool := match l with
  | [a, b, c, d, e, f, g, h] => let n := (a != b).toNat + (b != c).toNat + (c != d).toNat + (d != e).toNat + (e != f).toNat + (f != g).toNat + (g != h).toNat + (h != a).toNat
    (n == 0 || n == 2) && !(b && !a && !c) && !(d && !c && !e) && !(f && !e && !g) && !(h && !g && !a)
  | _ => false
theorem euler : ∀ a b c d e f g h : Bool, okF [a, b, c, d, e, f, g, h] = true → (a || c || e || g) = true → (a && c && e && g && ((b && d && f) || (b && d && h) || (b && f && h) || (d && f && h))) = false →
    (!(e || f || g)).toNat + (!(a || g || h)).toNat + (!(a || b || c)).toNat + (!(c || d || e)).toNat + 1 = (!g).toNat + (!a).toNat + (!c).toNat + (!e).toNat := by decide
theorem dec_iff {p q : Prop} [Decidable p] [Decidable q] (h : p ↔ q) : decide p = decide q := by rw [decide_eq_decide]; exact h
/-- a ring of eight, rings of seven that close a hole -/
def ring7 (m : Ce) : List Ce := (around (0, 0)).filter fun d => !decide (d = m)
def rings : List (List Ce) := [ring7 (1, 1), ring7 (-1, 1), ring7 (-1, -1), ring7 (1, -1)]
theorem grow_chi {P : List Ce} {c : Ce} (hc : c ∉ P) (hf : okF ((around c).map fun d => decide (d ∈ P)) = true) (hs : ∃ b ∈ P, c ∈ nb b) (ha : ∀ R ∈ rings, ¬ ∀ d ∈ R, sh c d ∈ P) : chi (P ++ [c]) = chi P := by
  obtain ⟨x, y⟩ := c
  have eV : nV (P ++ [(x, y)]) = nV P + ((crn (x, y)).filter fun k => !decide (k ∈ P.flatMap crn)).length := by
    unfold nV
    rw [List.flatMap_append, show List.flatMap crn [(x, y)] = crn (x, y) by simp, dd_app (crn_nodup _)]
    congr 3
    funext k
    congr 1
    exact (@decide_eq_decide _ _ (_) (_)).mpr Iff.rfl
  have eE : nE (P ++ [(x, y)]) = nE P + ((sds (x, y)).filter fun k => !decide (k ∈ P.flatMap sds)).length := by
    unfold nE
    rw [List.flatMap_append, show List.flatMap sds [(x, y)] = sds (x, y) by simp, dd_app (sds_nodup _)]
    congr 3
    funext k
    congr 1
    exact (@decide_eq_decide _ _ (_) (_)).mpr Iff.rfl
  unfold chi
  rw [eV, eE, List.length_append, List.length_cons, List.length_nil]
  rw [show crn (x, y) = [(x, y), (x + 1, y), (x + 1, y + 1), (x, y + 1)] from rfl, show sds (x, y) = [((x, y), (x + 1, y)), ((x + 1, y), (x + 1, y + 1)), ((x, y + 1), (x + 1, y + 1)), ((x, y), (x, y + 1))] from rfl, filter4, filter4]
  simp only [crn_mem, sdh_mem, sdv_mem]
  have e1 : x + 1 - 1 = x := by omega
  have e2 : y + 1 - 1 = y := by omega
  simp only [e1, e2]
  simp only [around, List.map_cons, List.map_nil] at hf
  have hs' : (decide ((x + 1, y) ∈ P) || decide ((x, y + 1) ∈ P) || decide ((x - 1, y) ∈ P) || decide ((x, y - 1) ∈ P)) = true := by
    obtain ⟨b, hb, hn⟩ := hs
    have := nb_sym hn
    simp only [nb, List.mem_cons, List.not_mem_nil, or_false] at this
    simp only [Bool.or_eq_true, decide_eq_true_eq]
    rcases this with rfl | rfl | rfl | rfl
    · exact .inr hb
    · exact .inl (.inl (.inl hb))
    · exact .inl (.inl (.inr hb))
    · exact .inl (.inr hb)
  have ha' : (decide ((x + 1, y) ∈ P) && decide ((x, y + 1) ∈ P) && decide ((x - 1, y) ∈ P) && decide ((x, y - 1) ∈ P) && ((decide ((x + 1, y + 1) ∈ P) && decide ((x - 1, y + 1) ∈ P) && decide ((x - 1, y - 1) ∈ P)) || (decide ((x + 1, y + 1) ∈ P) && decide ((x - 1, y + 1) ∈ P) && decide ((x + 1, y - 1) ∈ P)) || (decide ((x + 1, y + 1) ∈ P) && decide ((x - 1, y - 1) ∈ P) && decide ((x + 1, y - 1) ∈ P)) || (decide ((x - 1, y + 1) ∈ P) && decide ((x - 1, y - 1) ∈ P) && decide ((x + 1, y - 1) ∈ P)))) = false := by
    rw [← Bool.not_eq_true]
    intro h
    simp only [Bool.and_eq_true, Bool.or_eq_true, decide_eq_true_eq] at h
    obtain ⟨⟨⟨⟨h0, h2⟩, h4⟩, h6⟩, h⟩ := h
    have z1 : x - 1 = -1 + x := by omega
    have z2 : y - 1 = -1 + y := by omega
    have z3 : x + 1 = 1 + x := by omega
    have z4 : y + 1 = 1 + y := by omega
    rcases h with ((⟨⟨h1, h3⟩, h5⟩ | ⟨⟨h1, h3⟩, h5⟩) | ⟨⟨h1, h3⟩, h5⟩) | ⟨⟨h1, h3⟩, h5⟩
    · exact ha (ring7 (1, -1)) (by decide) (by simp only [z1, z2, z3, z4] at h0 h1 h2 h3 h4 h5 h6; simp [ring7, around, sh]; exact ⟨h0, h1, h2, h3, h4, h5, h6⟩)
    · exact ha (ring7 (-1, -1)) (by decide) (by simp only [z1, z2, z3, z4] at h0 h1 h2 h3 h4 h5 h6; simp [ring7, around, sh]; exact ⟨h0, h1, h2, h3, h4, h6, h5⟩)
    · exact ha (ring7 (-1, 1)) (by decide) (by simp only [z1, z2, z3, z4] at h0 h1 h2 h3 h4 h5 h6; simp [ring7, around, sh]; exact ⟨h0, h1, h2, h4, h3, h6, h5⟩)
    · exact ha (ring7 (1, 1)) (by decide) (by simp only [z1, z2, z3, z4] at h0 h1 h2 h3 h4 h5 h6; simp [ring7, around, sh]; exact ⟨h0, h2, h1, h4, h3, h6, h5⟩)
  have key := euler _ _ _ _ _ _ _ _ hf hs' ha'
  have dor : ∀ p q : Prop, ∀ [Decidable p] [Decidable q], decide (p ∨ q) = (decide p || decide q) := fun p q => by intros; exact Bool.decide_or p q
  simp only [hc, false_or, or_false, or_true, Bool.decide_or]
  simp only [Bool.or_assoc] at key ⊢
  have perm1 : ∀ a b c : Bool, (a || (b || c)) = (c || (b || a)) := by decide
  have perm2 : ∀ a b c : Bool, (a || (b || c)) = (b || (a || c)) := by decide
  generalize decide ((x + 1, y) ∈ P) = a at *
  generalize decide ((x + 1, y + 1) ∈ P) = b at *
  generalize decide ((x, y + 1) ∈ P) = c at *
  generalize decide ((x - 1, y + 1) ∈ P) = d at *
  generalize decide ((x - 1, y) ∈ P) = e at *
  generalize decide ((x - 1, y - 1) ∈ P) = f at *
  generalize decide ((x, y - 1) ∈ P) = g at *
  generalize decide ((x + 1, y - 1) ∈ P) = h at *
  clear hf hs' ha' eV eE ha hs
  revert key
  cases a <;> cases b <;> cases c <;> cases d <;> cases e <;> cases f <;> cases g <;> cases h <;> simp <;> omega
/-- a ring of seven or eight -/
theorem chi_mem {P R : List Ce} (hP : P.Nodup) (hR : R.Nodup) (h : ∀ x, x ∈ P ↔ x ∈ R) : chi P = chi R := by
  unfold chi
  rw [nV_mem h, nE_mem h, Nat.le_antisymm (len_sub hP fun x hx => (h x).mp hx) (len_sub hR fun x hx => (h x).mpr hx)]
theorem rings_a : ∀ R ∈ rings, R.Nodup ∧ 7 ≤ R.length ∧ R ≠ [] ∧ chi R ≠ 1 := by decide +kernel
theorem rings_b : ∀ R ∈ rings, ∀ q ∈ R.flatMap nb, q ∉ R → q ≠ (0, 0) → chi (R ++ [q]) ≠ 1 := by decide +kernel
theorem reach_first {P : List Ce} {a b : Ce} (h : Reach P a b) : a = b ∨ ∃ c ∈ nb a, c ∈ P := by
  induction h with
  | refl => exact .inl rfl
  | step _ h1 h2 ih =>
    rcases ih with rfl | h
    · exact .inr ⟨_, h1, h2⟩
    · exact .inr h
theorem nb_irr (c : Ce) : c ∉ nb c := by
  obtain ⟨x, y⟩ := c
  simp [nb]
  omega
theorem sh_inj (v : Ce) {a b : Ce} (h : sh v a = sh v b) : a = b := by
  simp only [sh, Prod.mk.injEq] at h
  apply Prod.ext <;> omega
def mv (v c : Ce) : Ce := (c.1 - v.1, c.2 - v.2)
theorem sh_mv (v c : Ce) : sh v (mv v c) = c := by apply Prod.ext <;> simp [sh, mv]
theorem no_ring {P : List Ce} {c : Ce} (hn : P.Nodup) (hl : P.length ≤ 8) (h1 : chi P = 1) (hh : Hang P) (hc : c ∉ P) : ∀ R ∈ rings, ¬ ∀ d ∈ R, sh c d ∈ P := by
  intro R hR h
  obtain ⟨r1, r2, r3, r4⟩ := rings_a R hR
  have hR' : (R.map (sh c)).Nodup := List.Pairwise.map _ (fun a b hne e => hne (sh_inj c e)) r1
  have sub : ∀ x ∈ R.map (sh c), x ∈ P := fun x hx => by obtain ⟨d, hd, rfl⟩ := List.mem_map.mp hx; exact h d hd
  by_cases all : ∀ x ∈ P, x ∈ R.map (sh c)
  · have := chi_mem hn hR' fun x => ⟨all x, sub x⟩
    rw [h1, chi_sh] at this
    exact r4 this.symm
  · obtain ⟨q, hq⟩ := Classical.not_forall.mp all
    obtain ⟨q1, q2⟩ := Classical.not_imp.mp hq
    have e : ∀ x, x ∈ P ↔ x ∈ q :: R.map (sh c) := fun x => ⟨fun hx => by
      by_cases z : x ∈ q :: R.map (sh c)
      · exact z
      · have := len_sub (a := x :: q :: R.map (sh c)) (b := P) (List.nodup_cons.mpr ⟨z, List.nodup_cons.mpr ⟨q2, hR'⟩⟩) fun y hy => by
          rcases List.mem_cons.mp hy with rfl | hy
          · exact hx
          · rcases List.mem_cons.mp hy with rfl | hy
            · exact q1
            · exact sub y hy
        simp at this
        omega, fun hx => by
      rcases List.mem_cons.mp hx with rfl | hx
      · exact q1
      · exact sub x hx⟩
    have hn2 : ((R ++ [mv c q]).map (sh c)).Nodup := by
      rw [List.map_append, List.nodup_append]
      refine ⟨hR', by simp, fun a ha b hb => ?_⟩
      simp [sh_mv] at hb
      subst hb
      intro z
      subst z
      exact q2 ha
    have k := chi_mem hn hn2 fun x => by
      rw [e x, List.map_append, List.map_cons, List.map_nil, sh_mv]
      simp only [List.mem_cons, List.mem_append, List.not_mem_nil, or_false]
      exact or_comm
    rw [h1, chi_sh] at k
    obtain ⟨r, hr⟩ := List.exists_mem_of_ne_nil R r3
    obtain ⟨d, hd1, hd2⟩ : ∃ d ∈ nb q, d ∈ P := by
      rcases reach_first (hh q q1 _ (h r hr)) with z | z
      · exact absurd (List.mem_map.mpr ⟨r, hr, z.symm⟩) q2
      · exact z
    have hd3 : d ∈ R.map (sh c) := by
      rcases List.mem_cons.mp ((e d).mp hd2) with rfl | z
      · exact absurd hd1 (nb_irr _)
      · exact z
    obtain ⟨d', hd', rfl⟩ := List.mem_map.mp hd3
    refine rings_b R hR (mv c q) (List.mem_flatMap.mpr ⟨d', hd', ?_⟩) (fun z => q2 (List.mem_map.mpr ⟨_, z, sh_mv _ _⟩)) (fun z => ?_) k.symm
    · have := nb_sym hd1
      simp only [nb, sh, mv, List.mem_cons, List.not_mem_nil, or_false] at this ⊢
      rcases this with rfl | rfl | rfl | rfl <;> simp <;> omega
    · have := sh_mv c q
      rw [z] at this
      apply hc
      rw [show c = q by rw [← this]; apply Prod.ext <;> simp [sh]]
      exact q1
end Pc

set_option Elab.async false
set_option linter.all false
set_option maxRecDepth 100000
set_option maxHeartbeats 4000000
/-! placed forms, the eight maps. -/
namespace Pc
/-- the order of cells -/
def cle (a b : Ce) : Bool := decide (a.1 < b.1) || (decide (a.1 = b.1) && decide (a.2 ≤ b.2))
theorem cle_p {a b : Ce} : cle a b = true ↔ a.1 < b.1 ∨ (a.1 = b.1 ∧ a.2 ≤ b.2) := by unfold cle; simp
theorem cle_trans {a b c : Ce} (h : cle a b = true) (k : cle b c = true) : cle a c = true := by rw [cle_p] at *; omega
theorem cle_total (a b : Ce) : cle a b = true ∨ cle b a = true := by rw [cle_p, cle_p]; omega
theorem cle_anti {a b : Ce} (h : cle a b = true) (k : cle b a = true) : a = b := by rw [cle_p] at *; apply Prod.ext <;> omega
def ins (a : Ce) : List Ce → List Ce
  | [] => [a]
  | b :: l => if cle a b = true then a :: b :: l else b :: ins a l
def srt : List Ce → List Ce
  | [] => []
  | a :: l => ins a (srt l)
theorem ins_perm (a : Ce) : ∀ l : List Ce, (ins a l).Perm (a :: l)
  | [] => .refl _
  | b :: l => by
    unfold ins
    split
    · exact .refl _
    · exact (List.Perm.cons b (ins_perm a l)).trans (List.Perm.swap a b l)
theorem srt_perm : ∀ l : List Ce, (srt l).Perm l
  | [] => .refl _
  | a :: l => (ins_perm a (srt l)).trans (List.Perm.cons a (srt_perm l))
abbrev Srt (l : List Ce) : Prop := l.Pairwise fun a b => cle a b = true
theorem ins_srt (a : Ce) : ∀ {l : List Ce}, Srt l → Srt (ins a l)
  | [], _ => List.pairwise_cons.mpr ⟨fun _ h => by simp at h, .nil⟩
  | b :: l, h => by
    obtain ⟨h1, h2⟩ := List.pairwise_cons.mp h
    unfold ins
    split
    · rename_i k
      refine List.pairwise_cons.mpr ⟨fun x hx => ?_, h⟩
      rcases List.mem_cons.mp hx with rfl | hx
      · exact k
      · exact cle_trans k (h1 x hx)
    · rename_i k
      refine List.pairwise_cons.mpr ⟨fun x hx => ?_, ins_srt a h2⟩
      rcases List.mem_cons.mp ((ins_perm a l).mem_iff.mp hx) with rfl | hx
      · rcases cle_total b x with z | z
        · exact z
        · exact absurd z k
      · exact h1 x hx
theorem srt_srt : ∀ l : List Ce, Srt (srt l)
  | [] => .nil
  | a :: l => ins_srt a (srt_srt l)
theorem srt_uni : ∀ {l m : List Ce}, Srt l → Srt m → l.Perm m → l = m
  | [], m, _, _, p => (List.nil_perm.mp p).symm
  | a :: l, [], _, _, p => by have := p.length_eq; simp at this
  | a :: l, b :: m, h, k, p => by
    obtain ⟨h1, h2⟩ := List.pairwise_cons.mp h
    obtain ⟨k1, k2⟩ := List.pairwise_cons.mp k
    have e : a = b := by
      rcases List.mem_cons.mp (p.mem_iff.mp (List.mem_cons_self (a := a) (l := l))) with z | z
      · exact z
      · rcases List.mem_cons.mp (p.mem_iff.mpr (List.mem_cons_self (a := b) (l := m))) with y | y
        · exact y.symm
        · exact cle_anti (h1 b y) (k1 a z)
    subst e
    rw [srt_uni h2 k2 (List.Perm.cons_inv p)]
theorem srt_eq {l m : List Ce} (p : l.Perm m) : srt l = srt m := srt_uni (srt_srt l) (srt_srt m) ((srt_perm l).trans (p.trans (srt_perm m).symm))
theorem srt_id {l : List Ce} (h : Srt l) : srt l = l := srt_uni (srt_srt l) h (srt_perm l)
/-! the least -/
def lo : List Int → Int
  | [] => 0
  | a :: l => l.foldl (fun x y => if y < x then y else x) a
theorem lo_fold : ∀ (l : List Int) (a : Int), (l.foldl (fun x y => if y < x then y else x) a ∈ a :: l) ∧ ∀ y ∈ a :: l, l.foldl (fun x y => if y < x then y else x) a ≤ y
  | [], a => ⟨by simp, fun y hy => by simp at hy; simp [hy]⟩
  | b :: l, a => by
    obtain ⟨h1, h2⟩ := lo_fold l (if b < a then b else a)
    rw [List.foldl_cons]
    refine ⟨?_, fun y hy => ?_⟩
    · rcases List.mem_cons.mp h1 with h | h
      · rw [h]; split <;> simp
      · simp [h]
    · have h0 := h2 _ List.mem_cons_self
      have hm : (if b < a then b else a) ≤ a ∧ (if b < a then b else a) ≤ b := by split <;> omega
      rcases List.mem_cons.mp hy with rfl | hy
      · exact Int.le_trans h0 hm.1
      · rcases List.mem_cons.mp hy with rfl | hy
        · exact Int.le_trans h0 hm.2
        · exact h2 y (List.mem_cons_of_mem _ hy)
theorem lo_spec {l : List Int} (h : l ≠ []) : lo l ∈ l ∧ ∀ y ∈ l, lo l ≤ y := by
  cases l with
  | nil => exact absurd rfl h
  | cons a l => exact lo_fold l a
theorem lo_uni {l : List Int} {m : Int} (h : m ∈ l) (k : ∀ y ∈ l, m ≤ y) : lo l = m := by
  obtain ⟨h1, h2⟩ := lo_spec (l := l) (fun e => by rw [e] at h; simp at h)
  have := h2 m h
  have := k _ h1
  omega
theorem lo_mem {l m : List Int} (h : ∀ x, x ∈ l ↔ x ∈ m) : lo l = lo m := by
  cases l with
  | nil => cases m with
    | nil => rfl
    | cons b m => have := (h b).mpr List.mem_cons_self; simp at this
  | cons a l =>
    obtain ⟨h1, h2⟩ := lo_spec (l := a :: l) (by simp)
    exact (lo_uni ((h _).mp h1) fun y hy => h2 y ((h y).mpr hy)).symm
theorem lo_add {l : List Int} (v : Int) (h : l ≠ []) : lo (l.map (· + v)) = lo l + v := by
  obtain ⟨h1, h2⟩ := lo_spec h
  refine lo_uni (List.mem_map.mpr ⟨_, h1, rfl⟩) fun y hy => ?_
  obtain ⟨x, hx, rfl⟩ := List.mem_map.mp hy
  have := h2 x hx
  omega
/-! ### placed -/
def low (P : List Ce) : Ce := (lo (P.map (·.1)), lo (P.map (·.2)))
def plc (P : List Ce) : List Ce := srt (P.map (mv (low P)))
theorem low_perm {P R : List Ce} (p : P.Perm R) : low P = low R := by
  unfold low
  rw [lo_mem fun x => (p.map (·.1)).mem_iff, lo_mem fun x => (p.map (·.2)).mem_iff]
theorem plc_perm {P R : List Ce} (p : P.Perm R) : plc P = plc R := by
  unfold plc
  rw [low_perm p]
  exact srt_eq (p.map _)
theorem low_sh {P : List Ce} (v : Ce) (h : P ≠ []) : low (P.map (sh v)) = sh v (low P) := by
  have e1 : (P.map (sh v)).map (·.1) = (P.map (·.1)).map (· + v.1) := by simp [sh]
  have e2 : (P.map (sh v)).map (·.2) = (P.map (·.2)).map (· + v.2) := by simp [sh]
  unfold low
  rw [e1, e2, lo_add _ (by simpa using h), lo_add _ (by simpa using h)]
  rfl
theorem plc_sh {P : List Ce} (v : Ce) : plc (P.map (sh v)) = plc P := by
  by_cases h : P = []
  · subst h; rfl
  · unfold plc
    rw [low_sh v h, List.map_map]
    congr 1
    apply List.map_congr_left
    intro c _
    apply Prod.ext <;> simp [sh, mv] <;> omega
theorem mv_sh (v : Ce) : mv v = sh (-v.1, -v.2) := by funext c; apply Prod.ext <;> simp [sh, mv] <;> omega
/-- a placed piece is the piece moved -/
theorem plc_is (P : List Ce) : ∃ v, (plc P).Perm (P.map (sh v)) := ⟨(-(low P).1, -(low P).2), by
  unfold plc
  rw [mv_sh]
  exact srt_perm _⟩
/-! ### the eight maps -/
def lin : Nat → Ce → Ce
  | 0, c => c
  | 1, c => (-c.2, c.1)
  | 2, c => (-c.1, -c.2)
  | 3, c => (c.2, -c.1)
  | 4, c => (-c.1, c.2)
  | 5, c => (-c.2, -c.1)
  | 6, c => (c.1, -c.2)
  | _, c => (c.2, c.1)
/-- lin (mul i j) = lin i after lin j -/
def mul (i j : Nat) : Nat := if i < 4 then (if j < 4 then (i + j) % 4 else 4 + (i + j) % 4) else if j < 4 then 4 + (i + 4 - j) % 4 else (i + 4 - j % 4) % 4
def inv (i : Nat) : Nat := if i < 4 then (4 - i) % 4 else i
theorem i8 {i : Nat} (h : i < 8) : i = 0 ∨ i = 1 ∨ i = 2 ∨ i = 3 ∨ i = 4 ∨ i = 5 ∨ i = 6 ∨ i = 7 := by omega
theorem lin_mul {i j : Nat} (hi : i < 8) (hj : j < 8) (c : Ce) : lin i (lin j c) = lin (mul i j) c := by
  rcases i8 hi with rfl | rfl | rfl | rfl | rfl | rfl | rfl | rfl <;> rcases i8 hj with rfl | rfl | rfl | rfl | rfl | rfl | rfl | rfl <;> simp [lin, mul]
theorem mul_lt {i j : Nat} (hi : i < 8) (hj : j < 8) : mul i j < 8 := by unfold mul; split <;> split <;> omega
theorem inv_lt {i : Nat} (hi : i < 8) : inv i < 8 := by unfold inv; split <;> omega
theorem mul_inv {i j : Nat} (hi : i < 8) (hj : j < 8) : mul (inv j) (mul j i) = i ∧ mul (mul i (inv j)) j = i ∧ mul (inv j) j = 0 ∧ mul i 0 = i ∧ mul 0 i = i := by
  rcases i8 hi with rfl | rfl | rfl | rfl | rfl | rfl | rfl | rfl <;> rcases i8 hj with rfl | rfl | rfl | rfl | rfl | rfl | rfl | rfl <;> decide
theorem lin_sh {i : Nat} (hi : i < 8) (v c : Ce) : lin i (sh v c) = sh (lin i v) (lin i c) := by
  rcases i8 hi with rfl | rfl | rfl | rfl | rfl | rfl | rfl | rfl <;> apply Prod.ext <;> simp [lin, sh] <;> omega
/-- the form of the number i -/
def frm (i : Nat) (P : List Ce) : List Ce := plc (P.map (lin i))
theorem map_lin (P : List Ce) {i j : Nat} (hi : i < 8) (hj : j < 8) : (P.map (lin j)).map (lin i) = P.map (lin (mul i j)) := by
  rw [List.map_map]
  exact List.map_congr_left fun c _ => lin_mul hi hj c
theorem frm0 (P : List Ce) : frm 0 P = plc P := by
  unfold frm
  rw [show P.map (lin 0) = P.map id from List.map_congr_left fun c _ => rfl, List.map_id]
theorem frm_perm {P R : List Ce} (p : P.Perm R) (i : Nat) : frm i P = frm i R := plc_perm (p.map _)
theorem frm_sh {P : List Ce} (v : Ce) {i : Nat} (hi : i < 8) : frm i (P.map (sh v)) = frm i P := by
  unfold frm
  have e : (P.map (sh v)).map (lin i) = (P.map (lin i)).map (sh (lin i v)) := by
    rw [List.map_map, List.map_map]
    exact List.map_congr_left fun c _ => lin_sh hi v c
  rw [e, plc_sh]
theorem frm_frm (P : List Ce) {i j : Nat} (hi : i < 8) (hj : j < 8) : frm i (frm j P) = frm (mul i j) P := by
  obtain ⟨v, p⟩ := plc_is (P.map (lin j))
  have e : frm i (frm j P) = frm i ((P.map (lin j)).map (sh v)) := frm_perm p i
  rw [e, frm_sh v hi]
  unfold frm
  rw [map_lin P hi hj]
theorem frm_plc (P : List Ce) {i : Nat} (hi : i < 8) : frm i (plc P) = frm i P := by
  rw [← frm0 P, frm_frm P hi (by decide), (mul_inv hi hi).2.2.2.1]
/-- forms of a form -/
theorem frm_can (P : List Ce) {i j k : Nat} (hi : i < 8) (hj : j < 8) (hk : k < 8) (h : frm i P = frm j P) : frm (mul k i) P = frm (mul k j) P := by
  rw [← frm_frm P hk hi, ← frm_frm P hk hj, h]
def frms (P : List Ce) : List (List Ce) := (List.range 8).map fun i => frm i P
theorem mem_frms {P x : List Ce} : x ∈ frms P ↔ ∃ i, i < 8 ∧ frm i P = x := by unfold frms; simp
/-- forms of R, R like P by the map j -/
def Like (P R : List Ce) : Prop := ∃ j, j < 8 ∧ ∀ i, i < 8 → frm i R = frm (mul i j) P
theorem like_of {P R : List Ce} {j : Nat} (hj : j < 8) (h : plc R = frm j P) : Like P R := ⟨j, hj, fun i hi => by rw [← frm_plc R hi, h, frm_frm P hi hj]⟩
theorem Like.set {P R : List Ce} (h : Like P R) (x : List Ce) : x ∈ frms R ↔ x ∈ frms P := by
  obtain ⟨j, hj, h⟩ := h
  rw [mem_frms, mem_frms]
  constructor
  · rintro ⟨i, hi, rfl⟩
    exact ⟨mul i j, mul_lt hi hj, (h i hi).symm⟩
  · rintro ⟨i, hi, rfl⟩
    refine ⟨mul i (inv j), mul_lt hi (inv_lt hj), ?_⟩
    rw [h _ (mul_lt hi (inv_lt hj)), (mul_inv hi hj).2.1]
/-- the number of symmetries -/
def sym (P : List Ce) : Nat := ((List.range 8).filter fun i => decide (frm i P = plc P)).length
theorem sym8 (p : Nat → Bool) : ((List.range 8).filter p).length = (p 0).toNat + (p 1).toNat + (p 2).toNat + (p 3).toNat + (p 4).toNat + (p 5).toNat + (p 6).toNat + (p 7).toNat := by
  have e : List.range 8 = [0, 1, 2, 3, 4, 5, 6, 7] := rfl
  rw [e]
  simp only [List.filter_cons, List.filter_nil]
  cases p 0 <;> cases p 1 <;> cases p 2 <;> cases p 3 <;> cases p 4 <;> cases p 5 <;> cases p 6 <;> cases p 7 <;> rfl
theorem dec_of {p q : Prop} [Decidable p] [Decidable q] (h : p ↔ q) : decide p = decide q := by rw [decide_eq_decide]; exact h
theorem Like.sym {P R : List Ce} (h : Like P R) : sym R = sym P := by
  obtain ⟨j, hj, h⟩ := h
  have key : ∀ i, i < 8 → decide (frm i R = plc R) = decide (frm (mul (inv j) (mul i j)) P = plc P) := fun i hi => by
    apply dec_of
    rw [← frm0 R, h i hi, h 0 (by decide), (mul_inv hj hj).2.2.2.2, ← frm0 P]
    constructor
    · intro e
      have := frm_can P (mul_lt hi hj) hj (inv_lt hj) e
      rw [(mul_inv hj hj).2.2.1] at this
      exact this
    · intro e
      have := frm_can P (mul_lt (inv_lt hj) (mul_lt hi hj)) (by decide) hj e
      rw [(mul_inv hj hj).2.2.2.1] at this
      rw [← this]
      congr 1
      have : ∀ a, a < 8 → ∀ b, b < 8 → mul b (mul (inv b) a) = a := by decide
      exact (this _ (mul_lt hi hj) j hj).symm
  unfold Pc.sym
  rw [sym8, sym8, key 0 (by decide), key 1 (by decide), key 2 (by decide), key 3 (by decide), key 4 (by decide), key 5 (by decide), key 6 (by decide), key 7 (by decide)]
  generalize hb : (fun i => (decide (frm i P = plc P)).toNat) = b
  have hb' : ∀ i, (decide (frm i P = plc P)).toNat = b i := fun i => by rw [← hb]
  simp only [hb']
  rcases i8 hj with rfl | rfl | rfl | rfl | rfl | rfl | rfl | rfl <;> simp [mul, inv] <;> omega
theorem sym_of : ∀ b0 b1 b2 b3 b4 b5 b6 b7 : Bool, b0 = true → (∀ i, i < 8 → ∀ j, j < 8 → [b0, b1, b2, b3, b4, b5, b6, b7].getD j false = true → [b0, b1, b2, b3, b4, b5, b6, b7].getD (mul i j) false = [b0, b1, b2, b3, b4, b5, b6, b7].getD i false) →
    b0.toNat + b1.toNat + b2.toNat + b3.toNat + b4.toNat + b5.toNat + b6.toNat + b7.toNat ∈ [1, 2, 4, 8] := by decide +kernel
theorem sym_in (P : List Ce) : sym P ∈ [1, 2, 4, 8] := by
  have f : ∀ i, i < 8 → ∀ j, j < 8 → decide (frm j P = plc P) = true → decide (frm (mul i j) P = plc P) = decide (frm i P = plc P) := fun i hi j hj e => by
    have e := of_decide_eq_true e
    rw [← frm0 P] at e
    have := frm_can P hj (by decide) hi e
    rw [(mul_inv hi hi).2.2.2.1] at this
    rw [this]
  have e0 : decide (frm 0 P = plc P) = true := by rw [frm0]; simp
  unfold sym
  rw [sym8]
  refine sym_of _ _ _ _ _ _ _ _ e0 ?_
  have g : ∀ i, i < 8 → [decide (frm 0 P = plc P), decide (frm 1 P = plc P), decide (frm 2 P = plc P), decide (frm 3 P = plc P), decide (frm 4 P = plc P), decide (frm 5 P = plc P), decide (frm 6 P = plc P), decide (frm 7 P = plc P)].getD i false = decide (frm i P = plc P) := fun i hi => by
    rcases i8 hi with rfl | rfl | rfl | rfl | rfl | rfl | rfl | rfl <;> rfl
  intro i hi j hj h
  rw [g j hj] at h
  rw [g _ (mul_lt hi hj), g i hi]
  exact f i hi j hj h
end Pc

set_option Elab.async false
set_option linter.all false
set_option maxRecDepth 100000
set_option maxHeartbeats 4000000
/-! the search, pieces. -/
namespace Pc
def bstep (s : List Ce × List Ce) (o : Ce) : List Ce × List Ce := if o ∈ s.1 then (s.1.filter (fun x => !decide (x = o)), s.2 ++ [o]) else s
def bturn (s : List Ce × List Ce) (i : Nat) : List Ce × List Ce := match s.2[i]? with
  | some c => (nb c).foldl bstep s
  | none => s
def bfs (h : Ce) (P : List Ce) : List Ce × List Ce := (List.range P.length).foldl bturn (P.filter (fun x => !decide (x = h)), [h])
structure J (h : Ce) (P : List Ce) (s : List Ce × List Ce) : Prop where
  a : ∀ x ∈ s.1, x ∈ P
  b : ∀ x ∈ s.2, x ∈ P
  c : ∀ x ∈ P, x ∈ s.1 ∨ x ∈ s.2
  d : ∀ x ∈ s.1, x ∉ s.2
  e : s.1.length + s.2.length ≤ P.length
  f : h ∈ s.2
theorem filter_len {l : List Ce} {o : Ce} (h : o ∈ l) : (l.filter fun x => !decide (x = o)).length + 1 ≤ l.length := by
  have h1 : (l.filter fun x => !decide (x = o)).length + (l.filter fun x => decide (x = o)).length = l.length := by
    induction l with
    | nil => rfl
    | cons a l ih =>
      rw [List.filter_cons, List.filter_cons]
      by_cases e : a = o
      · by_cases z : o ∈ l
        · have := ih z; simp [e]; omega
        · have q : l.filter (fun x => decide (x = o)) = [] := by
            rw [List.filter_eq_nil_iff]
            intro x hx k
            exact z (of_decide_eq_true k ▸ hx)
          have q2 : l.filter (fun x => !decide (x = o)) = l := by
            rw [List.filter_eq_self]
            intro x hx
            simp
            intro k
            exact z (k ▸ hx)
          simp [e, q, q2]
      · have z : o ∈ l := by
          rcases List.mem_cons.mp h with k | k
          · exact absurd k.symm e
          · exact k
        have := ih z
        simp [e]
        omega
  have h2 : 0 < (l.filter fun x => decide (x = o)).length := List.length_pos_of_mem (List.mem_filter.mpr ⟨h, by simp⟩)
  omega
theorem bstep_J {h : Ce} {P : List Ce} {s : List Ce × List Ce} {o : Ce} (j : J h P s) : J h P (bstep s o) ∧ (bstep s o).1.length ≤ s.1.length ∧ (∀ x ∈ (bstep s o).1, x ∈ s.1) ∧ o ∉ (bstep s o).1 ∧ ∃ t, (bstep s o).2 = s.2 ++ t := by
  unfold bstep
  by_cases ho : o ∈ s.1
  · rw [if_pos ho]
    have hl := filter_len ho
    refine ⟨⟨fun x hx => j.a x (List.mem_filter.mp hx).1, fun x hx => ?_, fun x hx => ?_, fun x hx => ?_, ?_, List.mem_append_left _ j.f⟩, by show (s.1.filter _).length ≤ _; omega, fun x hx => (List.mem_filter.mp hx).1, by simp, ⟨_, rfl⟩⟩
    · rcases List.mem_append.mp hx with hx | hx
      · exact j.b x hx
      · rw [List.mem_singleton.mp hx]; exact j.a o ho
    · by_cases q : x = o
      · exact .inr (List.mem_append_right _ (by simp [q]))
      · rcases j.c x hx with z | z
        · exact .inl (List.mem_filter.mpr ⟨z, by simp [q]⟩)
        · exact .inr (List.mem_append_left _ z)
    · obtain ⟨h1, h2⟩ := List.mem_filter.mp hx
      simp at h2
      intro z
      rcases List.mem_append.mp z with z | z
      · exact j.d x h1 z
      · exact h2 (List.mem_singleton.mp z)
    · have := j.e
      simp only [List.length_append, List.length_cons, List.length_nil]
      omega
  · rw [if_neg ho]
    exact ⟨j, Nat.le_refl _, fun x hx => hx, ho, [], by simp⟩
theorem bfold_J {h : Ce} {P : List Ce} : ∀ (os : List Ce) {s : List Ce × List Ce}, J h P s → J h P (os.foldl bstep s) ∧ (∀ x ∈ (os.foldl bstep s).1, x ∈ s.1) ∧ (∀ o ∈ os, o ∉ (os.foldl bstep s).1) ∧ ∃ t, (os.foldl bstep s).2 = s.2 ++ t
  | [], s, j => ⟨j, fun x hx => hx, fun o ho => by simp at ho, [], by simp⟩
  | o :: os, s, j => by
    obtain ⟨j1, _, k1, k2, t, k3⟩ := bstep_J (o := o) j
    obtain ⟨j2, m1, m2, u, m3⟩ := bfold_J os j1
    rw [List.foldl_cons]
    refine ⟨j2, fun x hx => k1 x (m1 x hx), fun x hx => ?_, t ++ u, by rw [m3, k3, List.append_assoc]⟩
    rcases List.mem_cons.mp hx with rfl | hx
    · exact fun z => k2 (m1 _ z)
    · exact m2 x hx
structure JJ (h : Ce) (P : List Ce) (i : Nat) (s : List Ce × List Ce) : Prop where
  j : J h P s
  g : ∀ k, k < i → ∀ c, s.2[k]? = some c → ∀ o ∈ nb c, o ∉ s.1
theorem bturn_J {h : Ce} {P : List Ce} {i : Nat} {s : List Ce × List Ce} (j : JJ h P i s) : JJ h P (i + 1) (bturn s i) := by
  unfold bturn
  cases q : s.2[i]? with
  | none =>
    refine ⟨j.j, fun k hk c hc => ?_⟩
    by_cases e : k = i
    · subst e
      have hc : s.2[k]? = some c := hc
      rw [q] at hc; cases hc
    · exact j.g k (by omega) c hc
  | some c =>
    obtain ⟨j1, m1, m2, t, m3⟩ := bfold_J (nb c) j.j
    refine ⟨j1, fun k hk d hd o ho => ?_⟩
    have hi : i < s.2.length := (List.getElem?_eq_some_iff.mp q).1
    have hd : (List.foldl bstep s (nb c)).2[k]? = some d := hd
    rw [m3, List.getElem?_append_left (by omega)] at hd
    by_cases e : k = i
    · subst e
      rw [q] at hd
      cases hd
      exact m2 o ho
    · exact fun z => j.g k (by omega) d hd o ho (m1 o z)
theorem bturns_J {h : Ce} {P : List Ce} : ∀ (n : Nat) {s : List Ce × List Ce}, JJ h P 0 s → JJ h P n ((List.range n).foldl bturn s)
  | 0, s, j => j
  | n + 1, s, j => by
    rw [List.range_succ, List.foldl_append]
    exact bturn_J (bturns_J n j)
theorem J0 {h : Ce} {P : List Ce} (hh : h ∈ P) : JJ h P 0 (P.filter (fun x => !decide (x = h)), [h]) := by
  have hl := filter_len hh
  refine ⟨⟨fun x hx => (List.mem_filter.mp hx).1, fun x hx => by rw [List.mem_singleton.mp hx]; exact hh, fun x hx => ?_, fun x hx => ?_, by simpa using hl, by simp⟩, fun k hk => by omega⟩
  · by_cases q : x = h
    · exact .inr (by simp [q])
    · exact .inl (List.mem_filter.mpr ⟨hx, by simp [q]⟩)
  · have := (List.mem_filter.mp hx).2
    simpa using this
theorem bfs_ok {h : Ce} {P : List Ce} (hh : h ∈ P) (k : Hang P) : (bfs h P).1 = [] := by
  have j := bturns_J P.length (J0 hh)
  unfold bfs
  generalize hs : (List.range P.length).foldl bturn (P.filter (fun x => !decide (x = h)), [h]) = s at j ⊢
  cases q : s.1 with
  | nil => rfl
  | cons x l =>
    have hx : x ∈ s.1 := by rw [q]; exact List.mem_cons_self
    have hr := k h hh x (j.j.a x hx)
    have key : ∀ y, Reach P h y → y ∈ s.2 := fun y r => by
      induction r with
      | refl => exact j.j.f
      | @step b c _ h1 h2 ih =>
        obtain ⟨n, hn, e⟩ := List.getElem_of_mem ih
        have := j.g n (by have := j.j.e; omega) b (List.getElem?_eq_some_iff.mpr ⟨hn, e⟩) c h1
        rcases j.j.c c h2 with z | z
        · exact absurd z this
        · exact z
    exact absurd (key x hr) (j.j.d x hx)
/-! ### pieces -/
structure Good (B : Int) (P : List Ce) : Prop where
  nd : P.Nodup
  ne : P ≠ []
  len : P.length ≤ 60
  bd : ∀ c ∈ P, -B ≤ c.1 ∧ c.1 ≤ B ∧ -B ≤ c.2 ∧ c.2 ≤ B
  hg : Hang P
  ch : chi P = 1
theorem Good.perm {B : Int} {P R : List Ce} (p : P.Perm R) (g : Good B P) : Good B R where
  nd := p.nodup_iff.mp g.nd
  ne := fun e => g.ne (by rw [e] at p; exact p.eq_nil)
  len := by rw [← p.length_eq]; exact g.len
  bd := fun c hc => g.bd c (p.mem_iff.mpr hc)
  hg := g.hg.mem fun x => p.mem_iff
  ch := by rw [← chi_perm p]; exact g.ch
theorem Good.mono {B C : Int} {P : List Ce} (h : B ≤ C) (g : Good B P) : Good C P := ⟨g.nd, g.ne, g.len, fun c hc => by have := g.bd c hc; omega, g.hg, g.ch⟩
theorem lin_all {Q : List Ce → Prop} (ht : ∀ P, Q P → Q (P.map tq)) (hm : ∀ P, Q P → Q (P.map mq)) {P : List Ce} (h : Q P) {i : Nat} (hi : i < 8) : Q (P.map (lin i)) := by
  have e : ∀ (f g : Ce → Ce), (∀ c, f c = g c) → P.map f = P.map g := fun f g h => List.map_congr_left fun c _ => h c
  rcases i8 hi with rfl | rfl | rfl | rfl | rfl | rfl | rfl | rfl
  · rw [e (lin 0) id fun c => rfl, List.map_id]; exact h
  · exact ht _ h
  · have := ht _ (ht _ h)
    rw [List.map_map] at this
    rw [e (lin 2) (tq ∘ tq) fun c => by simp [lin, tq]]
    exact this
  · have := ht _ (ht _ (ht _ h))
    rw [List.map_map, List.map_map] at this
    rw [e (lin 3) (tq ∘ tq ∘ tq) fun c => by simp [lin, tq]]
    exact this
  · exact hm _ h
  · have := ht _ (hm _ h)
    rw [List.map_map] at this
    rw [e (lin 5) (tq ∘ mq) fun c => by simp [lin, tq, mq]]
    exact this
  · have := ht _ (ht _ (hm _ h))
    rw [List.map_map, List.map_map] at this
    rw [e (lin 6) (tq ∘ tq ∘ mq) fun c => by simp [lin, tq, mq]]
    exact this
  · have := ht _ (ht _ (ht _ (hm _ h)))
    rw [List.map_map, List.map_map, List.map_map] at this
    rw [e (lin 7) (tq ∘ tq ∘ tq ∘ mq) fun c => by simp [lin, tq, mq]]
    exact this
theorem nd_map {P : List Ce} {f : Ce → Ce} (inj : ∀ a b, f a = f b → a = b) (h : P.Nodup) : (P.map f).Nodup := List.Pairwise.map _ (fun a b hne e => hne (inj a b e)) h
theorem Good.lin {B : Int} {P : List Ce} (g : Good B P) {i : Nat} (hi : i < 8) : Good B (P.map (lin i)) := by
  refine lin_all (Q := Good B) (fun P g => ?_) (fun P g => ?_) g hi
  · refine ⟨nd_map (fun a b e => by simp only [tq, Prod.mk.injEq] at e; apply Prod.ext <;> omega) g.nd, by simpa using g.ne, by simpa using g.len, fun c hc => ?_, g.hg.map tq nb_tq, by rw [chi_tq]; exact g.ch⟩
    obtain ⟨d, hd, rfl⟩ := List.mem_map.mp hc
    have := g.bd d hd
    simp only [tq]
    omega
  · refine ⟨nd_map (fun a b e => by simp only [mq, Prod.mk.injEq] at e; apply Prod.ext <;> omega) g.nd, by simpa using g.ne, by simpa using g.len, fun c hc => ?_, g.hg.map mq nb_mq, by rw [chi_mq]; exact g.ch⟩
    obtain ⟨d, hd, rfl⟩ := List.mem_map.mp hc
    have := g.bd d hd
    simp only [mq]
    omega
theorem Good.sh {B C : Int} {P : List Ce} (g : Good B P) (v : Ce) (hb : ∀ c ∈ P, -C ≤ c.1 + v.1 ∧ c.1 + v.1 ≤ C ∧ -C ≤ c.2 + v.2 ∧ c.2 + v.2 ≤ C) : Good C (P.map (sh v)) :=
  ⟨nd_map (fun a b => sh_inj v) g.nd, by simpa using g.ne, by simpa using g.len, fun c hc => by
    obtain ⟨d, hd, rfl⟩ := List.mem_map.mp hc
    exact hb d hd, g.hg.map _ (nb_sh v), by rw [chi_sh]; exact g.ch⟩
theorem low_bd {B : Int} {P : List Ce} (g : Good B P) : (-B ≤ (low P).1 ∧ (low P).1 ≤ B ∧ -B ≤ (low P).2 ∧ (low P).2 ≤ B) ∧ ∀ c ∈ P, (low P).1 ≤ c.1 ∧ (low P).2 ≤ c.2 := by
  obtain ⟨h1, h2⟩ := lo_spec (l := P.map (·.1)) (by simpa using g.ne)
  obtain ⟨k1, k2⟩ := lo_spec (l := P.map (·.2)) (by simpa using g.ne)
  obtain ⟨c, hc, e⟩ := List.mem_map.mp h1
  obtain ⟨d, hd, f⟩ := List.mem_map.mp k1
  have a := g.bd c hc
  have b := g.bd d hd
  refine ⟨?_, fun x hx => ⟨h2 _ (List.mem_map.mpr ⟨x, hx, rfl⟩), k2 _ (List.mem_map.mpr ⟨x, hx, rfl⟩)⟩⟩
  show _ ≤ lo _ ∧ lo _ ≤ _ ∧ _ ≤ lo _ ∧ lo _ ≤ _
  rw [← e, ← f]
  omega
theorem Good.plc {B : Int} {P : List Ce} (g : Good B P) : Good (2 * B) (plc P) ∧ ∀ c ∈ Pc.plc P, 0 ≤ c.1 ∧ 0 ≤ c.2 := by
  obtain ⟨h1, h2⟩ := low_bd g
  have e : P.map (mv (low P)) = P.map (Pc.sh (-(low P).1, -(low P).2)) := by rw [mv_sh]
  have p : (Pc.plc P).Perm (P.map (Pc.sh (-(low P).1, -(low P).2))) := by
    unfold Pc.plc
    rw [← e]
    exact srt_perm _
  refine ⟨Good.perm p.symm (g.sh _ fun c hc => ?_), fun c hc => ?_⟩
  · have := g.bd c hc
    have := h2 c hc
    simp only
    omega
  · obtain ⟨d, hd, rfl⟩ := List.mem_map.mp (p.mem_iff.mp hc)
    have := h2 d hd
    simp only [Pc.sh]
    omega
theorem Good.frm {B : Int} {P : List Ce} (g : Good B P) {i : Nat} (hi : i < 8) : Good (2 * B) (frm i P) ∧ ∀ c ∈ Pc.frm i P, 0 ≤ c.1 ∧ 0 ≤ c.2 := (g.lin hi).plc
theorem Good.one {B : Int} (c : Ce) (h : -B ≤ c.1 ∧ c.1 ≤ B ∧ -B ≤ c.2 ∧ c.2 ≤ B) : Good B [c] := by
  refine ⟨by simp, by simp, by simp, fun d hd => by rw [List.mem_singleton.mp hd]; exact h, Hang.one c, ?_⟩
  have e : [c] = [(0, 0)].map (Pc.sh c) := by simp [Pc.sh]
  rw [e, chi_sh]
  decide +kernel
theorem Good.grow {B : Int} {P : List Ce} {b c : Ce} (g : Good B P) (hl : P.length ≤ 8) (hb : b ∈ P) (hc : c ∈ nb b) (hn : c ∉ P) (hf : okF ((around c).map fun d => decide (d ∈ P)) = true) : Good (B + 1) (P ++ [c]) := by
  refine ⟨?_, by simp, by simp; omega, fun d hd => ?_, g.hg.grow hb hc, ?_⟩
  · rw [List.nodup_append]
    refine ⟨g.nd, by simp, fun a ha d hd => ?_⟩
    rw [List.mem_singleton.mp hd]
    exact fun e => hn (e ▸ ha)
  · rcases List.mem_append.mp hd with hd | hd
    · have := g.bd d hd; omega
    · rw [List.mem_singleton.mp hd]
      have := g.bd b hb
      simp only [nb, List.mem_cons, List.not_mem_nil, or_false] at hc
      rcases hc with rfl | rfl | rfl | rfl <;> simp only <;> omega
  · rw [grow_chi hn hf ⟨b, hb, hc⟩ (no_ring g.nd hl g.ch g.hg hn)]
    exact g.ch
/-! ### great pieces -/
def gd (P : List Ce) : Bool := match P with
  | [] => false
  | c :: r => decide (P.Nodup) && decide (P.length ≤ 60) && (P.all fun c => decide (-60 ≤ c.1) && decide (c.1 ≤ 60) && decide (-60 ≤ c.2) && decide (c.2 ≤ 60)) && ordB [c] r && decide (chi P = 1)
theorem gd_ok {P : List Ce} (h : gd P = true) : Good 60 P := by
  cases P with
  | nil => cases h
  | cons c r =>
    unfold gd at h
    simp only [Bool.and_eq_true, decide_eq_true_eq, List.all_eq_true] at h
    obtain ⟨⟨⟨⟨h1, h2⟩, h3⟩, h4⟩, h5⟩ := h
    exact ⟨h1, by simp, h2, fun d hd => by have := h3 d hd; omega, ordB_hang r [c] (Hang.one c) h4, h5⟩
def square : List Ce := (List.range 49).map fun i => ((i % 7 : Nat), (i / 7 : Nat))
def bar : List Ce := (List.range 60).map fun i => ((i : Nat), 0)
def arms : List Ce := (0, 0) :: ((List.range 14).map fun i => [(((i + 1 : Nat) : Int), 0), (-((i + 1 : Nat) : Int), 0), (0, ((i + 1 : Nat) : Int)), (0, -((i + 1 : Nat) : Int))]).flatten
def wheel : List Ce := [(0, 0), (1, 0), (1, 1), (0, 1), (2, 0), (1, 2), (-1, 1), (0, -1)]
def hook : List Ce := ((List.range 59).map fun i => ((0 : Int), ((i : Nat) : Int))) ++ [((1 : Int), (0 : Int))]
def stairs : List Ce := (List.range 60).map fun i => (((i + 1) / 2 : Nat), (i / 2 : Nat))
theorem gd_square : gd square = true := by decide +kernel
theorem gd_bar : gd bar = true := by decide +kernel
theorem gd_arms : gd arms = true := by decide +kernel
theorem gd_wheel : gd wheel = true := by decide +kernel
theorem gd_hook : gd hook = true := by decide +kernel
theorem gd_stairs : gd stairs = true := by decide +kernel
theorem sy_square : sym square = 8 := by decide +kernel
theorem sy_bar : sym bar = 4 := by decide +kernel
theorem sy_arms : sym arms = 8 := by decide +kernel
theorem sy_wheel : sym wheel = 4 := by decide +kernel
theorem sy_hook : sym hook = 1 := by decide +kernel
theorem sy_stairs : sym stairs = 2 := by decide +kernel
end Pc

set_option Elab.async false
set_option linter.all false
set_option maxRecDepth 100000
set_option maxHeartbeats 4000000
namespace WL
open PySem PySem.Spec PyProof.Rows L2 HotX L2H LamX TL Pc
local macro_rules | `(tactic| walk_at "ev") => `(tactic| simp [bodyM, sSeq, sIf, sSet, sSetO, sRet, sRetO, sRetS, sRetN, sApp, sPop, sDrop, sRaise, sUnp, sPar, sNext, oLst, oCall, oBin, oRep, vOf, aNil, aCons, eTup, eC, eVar, eOwn, vCall, vUn, vBin, vAn, vOrr, vNo, vIf, vChain, tOf, tTru, tNo, tAn, tOrr, ioGet, List.replicate, eCall, oCallF, chkN, z_call1, z_call2, z_call3, z_io1, z_io2, z_io3, vSl, pNone, pSome, eIdx, sizeLine_eq, wipeE, backE])
theorem isa_tt {xs : List D} (h : PyData.plainAll xs = true) : gIsa "tuple" (.tuple xs) = some (.bool true) := by unfold gIsa isaD; simp [PyData.plain, h, PySem.PyData.isTuple]
theorem isa_ii {i : Int} : gIsa "int" (.int i) = some (.bool true) := by simp [gIsa, isaD, PyData.plain, PySem.PyData.isInt]
theorem isa_bi {i : Int} : gIsa "bool" (.int i) = some (.bool false) := by simp [gIsa, isaD, PyData.plain, PySem.PyData.isBool]
@[simp] theorem v_is_tuple (xs : List D) (lo hi : Int) (hp : PyData.plainAll xs = true) : f_is_tuple_of.m [.tuple xs, .int lo, .int hi] = .ok (.bool (decide (lo ≤ xs.length) && decide ((xs.length : Int) ≤ hi)), .none) := by
  unfold f_is_tuple_of m_is_tuple_of
  walk_at "ev"
  simp [isa_tt hp]
  by_cases h : lo ≤ xs.length <;> simp [h]
@[simp] theorem v_is_whole (i lo hi : Int) : f_is_whole.m [.int i, .int lo, .int hi] = .ok (.bool (decide (lo ≤ i) && decide (i ≤ hi)), .none) := by
  unfold f_is_whole m_is_whole
  walk_at "ev"
  simp [isa_ii, isa_bi]
  by_cases h : lo ≤ i <;> simp [h]
def tD (p : Ce) : D := .tuple [.int p.1, .int p.2]
@[simp] theorem pl_nil : PyData.plainAll [] = true := rfl
@[simp] theorem pl_cons {x : D} {xs : List D} : PyData.plainAll (x :: xs) = (x.plain && PyData.plainAll xs) := rfl
@[simp] theorem pl_i {i : Int} : (PyData.int i).plain = true := rfl
@[simp] theorem pl_b {i : Bool} : (PyData.bool i).plain = true := rfl
@[simp] theorem pl_t {xs : List D} : (PyData.tuple xs).plain = PyData.plainAll xs := rfl
@[simp] theorem pl_l {xs : List D} : (PyData.list xs).plain = PyData.plainAll xs := rfl
def rD (r : List Ce) : D := .tuple (r.map tD)
theorem pl_r (r : List Ce) : PyData.plainAll (r.map tD) = true := by
  induction r with
  | nil => rfl
  | cons p r ih => simp [tD, ih]
@[simp] theorem pl_rD (r : List Ce) : (rD r).plain = true := pl_r r
theorem dep_r (r : List Ce) : PyData.depthAll (r.map tD) ≤ 1 := by
  induction r with
  | nil => simp [PyData.depthAll]
  | cons p r ih => simp only [List.map_cons, PyData.depthAll, tD, PyData.depth]; omega
theorem okD_tD (r : List Ce) : okD (.list (r.map tD)) = true := by
  have := dep_r r
  unfold okD
  rw [Bool.and_eq_true]
  exact ⟨pl_r r, decide_eq_true (by show PyData.depthAll (r.map tD) + 1 ≤ 60; omega)⟩
theorem okD_rD (r : List Ce) : okD (rD r) = true := by
  have := dep_r r
  unfold okD
  rw [Bool.and_eq_true]
  exact ⟨pl_r r, decide_eq_true (by show PyData.depthAll (r.map tD) + 1 ≤ 60; omega)⟩
theorem okD_nil : okD (.list []) = true := rfl
/-! ### the order of rows -/
def tl (p q : Ce) : Bool := decide (p.1 < q.1 ∨ (p.1 = q.1 ∧ p.2 < q.2))
def rl : List Ce → List Ce → Bool
  | [], [] => false
  | [], _ :: _ => true
  | _ :: _, [] => false
  | p :: a, q :: b => if p = q then rl a b else tl p q
theorem tl_trans {p q r : Ce} (h : tl p q = true) (k : tl q r = true) : tl p r = true := by
  unfold tl at *
  simp only [decide_eq_true_eq] at *
  omega
theorem tl_anti {p q : Ce} (h : tl p q = false) (k : tl q p = false) : p = q := by
  unfold tl at *
  simp only [decide_eq_false_iff_not] at *
  apply Prod.ext <;> omega
theorem tl_irr {p : Ce} : tl p p = false := by unfold tl; simp
theorem rl_anti : ∀ {a b : List Ce}, rl a b = false → rl b a = false → a = b
  | [], [], _, _ => rfl
  | [], _ :: _, h, _ => by cases h
  | _ :: _, [], _, h => by cases h
  | p :: a, q :: b, h, k => by
    unfold rl at h k
    by_cases e : p = q
    · subst e
      simp only [if_true] at h k
      rw [rl_anti h k]
    · rw [if_neg e] at h
      rw [if_neg (Ne.symm e)] at k
      exact absurd (tl_anti h k) e
theorem rl_trans : ∀ {a b c : List Ce}, rl a b = true → rl b c = true → rl a c = true
  | [], _, [], h, k => by
    rename_i b
    cases b <;> simp [rl] at h k
  | [], _, _ :: _, _, _ => rfl
  | _ :: _, [], _, h, _ => by simp [rl] at h
  | _ :: _, _ :: _, [], _, k => by simp [rl] at k
  | p :: a, q :: b, r :: c, h, k => by
    unfold rl at h k ⊢
    by_cases e1 : p = q
    · subst e1
      rw [if_pos rfl] at h
      by_cases e2 : p = r
      · subst e2; rw [if_pos rfl] at k ⊢; exact rl_trans h k
      · rw [if_neg e2] at k ⊢; exact k
    · rw [if_neg e1] at h
      by_cases e2 : q = r
      · subst e2; rw [if_neg e1]; exact h
      · rw [if_neg e2] at k
        have t := tl_trans h k
        by_cases e3 : p = r
        · subst e3; rw [tl_irr] at t; cases t
        · rw [if_neg e3]; exact t
theorem lt_rD : ∀ (a b : List Ce), PySem.W.rowLt (a.map tD) (b.map tD) = rl a b
  | [], [] => by decide
  | [], q :: b => by
    unfold PySem.W.rowLt
    simp only [List.map_nil, List.map_cons]
    rfl
  | p :: a, [] => by
    unfold PySem.W.rowLt
    simp only [List.map_nil, List.map_cons]
    rfl
  | p :: a, q :: b => by
    unfold PySem.W.rowLt
    rw [List.map_cons, List.map_cons, PySem.W.dataLt_cons (by simp [tD, PySem.W.alike, PySem.W.alikeAll])]
    have e : PyData.eqv (tD p) (tD q) = decide (p = q) := by
      rw [Bool.eq_iff_iff]
      simp [tD, PyData.eqv, PyData.eqvAll, Prod.ext_iff]
    have ih := lt_rD a b
    unfold PySem.W.rowLt at ih
    rw [e, ih]
    have t : PySem.W.dataLt (tD p) (tD q) = tl p q := PySem.W.dataLt_ii _ _ _ _
    rw [t]
    show _ = (if p = q then rl a b else tl p q)
    simp
theorem lt_row (a b : List Ce) : PySem.W.dataLt (rD a) (rD b) = rl a b := (PySem.W.dataLt_tuple _ _).trans (lt_rD a b)
def minR (x : List Ce) (xs : List (List Ce)) : List Ce := xs.foldl (fun a y => if rl y a then y else a) x
theorem minD_rows : ∀ (xs : List (List Ce)) (x : List Ce), PySem.W.minD (rD x) (xs.map rD) = rD (minR x xs)
  | [], x => rfl
  | y :: xs, x => by
    have ih := minD_rows xs (if rl y x then y else x)
    unfold PySem.W.minD minR at ih ⊢
    simp only [List.map_cons, List.foldl_cons]
    rw [lt_row, ← ih]
    congr 1
    split <;> rfl
theorem minR_spec : ∀ (xs : List (List Ce)) (x : List Ce), minR x xs ∈ x :: xs ∧ ∀ y ∈ x :: xs, rl y (minR x xs) = false
  | [], x => by
    refine ⟨List.mem_cons_self, fun y hy => ?_⟩
    have : y = x := by simpa using hy
    subst this
    show rl y y = false
    cases q : rl y y with
    | false => rfl
    | true =>
      have irr : ∀ a : List Ce, rl a a = false := fun a => by
        induction a with
        | nil => rfl
        | cons p a ih => unfold rl; simp [ih]
      rw [irr] at q; cases q
  | z :: xs, x => by
    have e : minR x (z :: xs) = minR (if rl z x then z else x) xs := rfl
    rw [e]
    obtain ⟨h1, h2⟩ := minR_spec xs (if rl z x then z else x)
    refine ⟨?_, fun y hy => ?_⟩
    · rcases List.mem_cons.mp h1 with h | h
      · rw [h]; split <;> simp
      · simp [h]
    · have h0 := h2 _ List.mem_cons_self
      rcases List.mem_cons.mp hy with rfl | hy
      · by_cases q : rl z y = true
        · rw [if_pos q] at h0 ⊢
          cases k : rl y (minR z xs) with
          | false => rfl
          | true =>
            have := rl_trans q k
            rw [h0] at this; cases this
        · rw [if_neg q] at h0 ⊢; exact h0
      · rcases List.mem_cons.mp hy with rfl | hy
        · by_cases q : rl y x = true
          · rw [if_pos q] at h0 ⊢; exact h0
          · rw [if_neg q] at h0 ⊢
            cases k : rl y (minR x xs) with
            | false => rfl
            | true =>
              rcases Bool.eq_false_or_eq_true (rl x y) with t | t
              · have := rl_trans t k
                rw [h0] at this; cases this
              · have q' : rl y x = false := by simpa using q
                have := rl_anti t q'
                subst this
                rw [h0] at k; cases k
        · exact h2 y (List.mem_cons_of_mem _ hy)
theorem minR_set {x y : List Ce} {xs ys : List (List Ce)} (h : ∀ z, z ∈ x :: xs ↔ z ∈ y :: ys) : minR x xs = minR y ys := by
  obtain ⟨a1, a2⟩ := minR_spec xs x
  obtain ⟨b1, b2⟩ := minR_spec ys y
  exact rl_anti (b2 _ ((h _).mp a1)) (a2 _ ((h _).mpr b1))
theorem eqv_rD : ∀ (a b : List Ce), PyData.eqvAll (a.map tD) (b.map tD) = decide (a = b)
  | [], [] => rfl
  | [], _ :: _ => rfl
  | _ :: _, [] => rfl
  | p :: a, q :: b => by
    have e : PyData.eqv (tD p) (tD q) = decide (p = q) := by
      rw [Bool.eq_iff_iff]
      simp [tD, PyData.eqv, PyData.eqvAll, Prod.ext_iff]
    simp only [List.map_cons, PyData.eqvAll, e, eqv_rD a b]
    rw [Bool.eq_iff_iff]
    simp
theorem v_ne (a b : List Ce) : gNe (rD a) (rD b) = some (.bool (!decide (a = b))) := by
  unfold gNe
  rw [okD_rD, okD_rD]
  simp only [Bool.and_self, if_true]
  have : PyData.eqv (rD a) (rD b) = PyData.eqvAll (a.map tD) (b.map tD) := rfl
  rw [this, eqv_rD]
theorem okD_t (p : Ce) : okD (tD p) = true := rfl
theorem v_eqt (p q : Ce) : gEq (tD p) (tD q) = some (.bool (decide (p = q))) := by
  unfold gEq
  rw [okD_t, okD_t]
  simp only [Bool.and_self, if_true]
  have e : PyData.eqv (tD p) (tD q) = decide (p = q) := by
    rw [Bool.eq_iff_iff]
    simp [tD, PyData.eqv, PyData.eqvAll, Prod.ext_iff]
  rw [e]
theorem v_eq (a b : List Ce) : gEq (rD a) (rD b) = some (.bool (decide (a = b))) := by
  unfold gEq
  rw [okD_rD, okD_rD]
  simp only [Bool.and_self, if_true]
  have : PyData.eqv (rD a) (rD b) = PyData.eqvAll (a.map tD) (b.map tD) := rfl
  rw [this, eqv_rD]
theorem mul_ok {i j : Int} (h : -(2 ^ 64) < i) (h2 : i < 2 ^ 64) : gMul (.int i) (.int j) = some (.int (i * j)) := by
  unfold gMul mulOk
  simp [h, h2]
  intro hh
  omega
def sortD' : D → Int
  | .none => 0
  | .bool _ => 1
  | .int _ => 2
  | .str _ => 3
  | .tuple _ => 4
  | .list _ => 5
  | .dict _ => 6
theorem v_sort (d : D) (h : d.plain = true) : f__law_sort.m [d] = .ok (.int (sortD' d), .none) := by
  show bodyM 1 none false m__law_sort _ = _
  unfold m__law_sort
  cases d <;> simp only [sortD'] <;> walk_at "ev" <;> simp [gIs, isD, isNone, gIsa, isaD, h, PySem.PyData.isInt, PySem.PyData.isBool, PySem.PyData.isStr, PySem.PyData.isTuple, PySem.PyData.isList] <;> try rfl
def good : Nat → D → Prop
  | _, .none => True
  | _, .bool _ => True
  | _, .int _ => True
  | n + 1, .list xs => xs.length ≤ 16777216 ∧ ∀ x ∈ xs, good n x
  | n + 1, .tuple xs => xs.length ≤ 16777216 ∧ ∀ x ∈ xs, good n x
  | _, _ => False
theorem good_plain : ∀ (n : Nat) (d : D), good n d → d.plain = true
  | n, .none, _ => rfl
  | n, .bool _, _ => rfl
  | n, .int _, _ => rfl
  | n + 1, .list xs, h => by
    have h : xs.length ≤ 16777216 ∧ ∀ x ∈ xs, good n x := h
    have : ∀ ys : List D, (∀ x ∈ ys, good n x) → PyData.plainAll ys = true := fun ys => by
      induction ys with
      | nil => intro _; rfl
      | cons y ys ih => intro h; simp [good_plain n y (h y (by simp)), ih fun x hx => h x (by simp [hx])]
    exact this xs h.2
  | n + 1, .tuple xs, h => by
    have h : xs.length ≤ 16777216 ∧ ∀ x ∈ xs, good n x := h
    have : ∀ ys : List D, (∀ x ∈ ys, good n x) → PyData.plainAll ys = true := fun ys => by
      induction ys with
      | nil => intro _; rfl
      | cons y ys ih => intro h; simp [good_plain n y (h y (by simp)), ih fun x hx => h x (by simp [hx])]
    exact this xs h.2
  | 0, .list _, h => h.elim
  | 0, .tuple _, h => h.elim
  | 0, .str _, h => h.elim
  | 0, .dict _, h => h.elim
  | n + 1, .str _, h => h.elim
  | n + 1, .dict _, h => h.elim
theorem in45 (j : Int) : gIn (.int j) (.tuple [.int 4, .int 5]) = some (.bool (decide (j = 4) || decide (j = 5))) := by
  have h1 : okD (.int j) = true := rfl
  have h2 : okD (.tuple [.int 4, .int 5]) = true := rfl
  unfold gIn inD
  simp only [h1, h2, and_self, if_true, Option.map_some, List.any_cons, List.any_nil, Bool.or_false, PyData.eqv]
  congr 2
  rw [Bool.eq_iff_iff]
  simp only [Bool.or_eq_true, beq_iff_eq, decide_eq_true_eq]
  omega
theorem zip_same (xs : List D) : zip2 xs xs = xs.map fun x => .tuple [x, x] := by
  unfold zip2
  induction xs with
  | nil => rfl
  | cons x xs ih => simp [ih]
theorem like_in (n : Nat) (xs : List D) (hl : xs.length ≤ 16777216) (a b : D) (h : ∀ x ∈ xs, (f__law_like n).m [x, x] = .ok (.bool true, .none)) (s : Option D) (hz : zipD [a, b] = some (zip2 xs xs)) :
    oComp (iZip (aCons (eVar 0) (aCons (eVar 1) (aNil)))) [3, 4] (bTup 2 (bCons (bName 3) (bCons (bName 4) (bNil)))) (tNo (tTru (eCall (f__law_like n) (chkN (f__law_like n).np (aCons (eVar 3) (aCons (eVar 4) (aNil))))))) (eC (.int 1)) [some a, some b, s, none, none] = .ok (.list [], [some a, some b, s, none, none]) := by
  rw [oComp_filter (enc := fun x : D => .tuple [x, x]) (f := fun _ => .int 1) (p := fun _ => false) (xs := xs) (by
    unfold TL.iZip
    walk_at "ev"
    rw [hz, zip_same]
    walk_at "ev") (by rw [sizeLine_eq]; exact hl) (fun x hx => by
    refine ⟨[some a, some b, s, some x, some x], [some a, some b, s, some x, some x], by simp [wipeE], ?_, by simp [wipeE], fun z => nomatch z⟩
    walk_at "ev"
    rw [h x hx]
    walk_at "ev") (by simp [wipeE, backE])]
  simp
theorem v_like : ∀ (n : Nat) (d : D), good n d → (f__law_like (n + 1)).m [d, d] = .ok (.bool true, .none) := by
  intro n
  induction n with
  | zero =>
    intro d h
    have hp := good_plain 0 d h
    have hs := v_sort d hp
    show bodyM 5 none false (m__law_like (f__law_like 0)) _ = _
    unfold m__law_like
    cases d with
    | none => rfl
    | bool b => cases b <;> rfl
    | int i =>
      walk_at "ev"
      rw [hs]
      simp only [sortD']
      walk_at "ev"
      rw [hs]
      simp only [sortD']
      walk_at "ev"
      rw [in45]
      simp
    | _ => exact h.elim
  | succ n ih =>
    intro d h
    have hp := good_plain (n + 1) d h
    have hs := v_sort d hp
    show bodyM 5 none false (m__law_like (f__law_like (n + 1))) _ = _
    unfold m__law_like
    cases d with
    | none => rfl
    | bool b => cases b <;> rfl
    | int i =>
      walk_at "ev"
      rw [hs]
      simp only [sortD']
      walk_at "ev"
      rw [hs]
      simp only [sortD']
      walk_at "ev"
      rw [in45]
      simp
    | str x => exact h.elim
    | dict x => exact h.elim
    | list xs =>
      have hx : xs.length ≤ 16777216 ∧ ∀ x ∈ xs, good n x := h
      have hc := like_in (n + 1) xs hx.1 (.list xs) (.list xs) (fun x q => ih x (hx.2 x q)) (some (.int 5)) rfl
      walk_at "ev"
      rw [hs]
      simp only [sortD']
      walk_at "ev"
      rw [hs]
      simp only [sortD']
      walk_at "ev"
      rw [in45]
      walk_at "ev"
      simp at hc
      rw [hc]
      walk_at "ev"
      rfl
    | tuple xs =>
      have hx : xs.length ≤ 16777216 ∧ ∀ x ∈ xs, good n x := h
      have hc := like_in (n + 1) xs hx.1 (.tuple xs) (.tuple xs) (fun x q => ih x (hx.2 x q)) (some (.int 4)) rfl
      walk_at "ev"
      rw [hs]
      simp only [sortD']
      walk_at "ev"
      rw [hs]
      simp only [sortD']
      walk_at "ev"
      rw [in45]
      walk_at "ev"
      simp at hc
      rw [hc]
      walk_at "ev"
      rfl
end WL

set_option Elab.async false
set_option linter.all false
set_option maxRecDepth 100000
set_option maxHeartbeats 4000000
namespace WL
open PySem PySem.Spec PyProof.Rows L2 HotX L2H LamX TL Pc
local macro_rules | `(tactic| walk_at "ev") => `(tactic| simp [bodyM, sSeq, sIf, sSet, sSetO, sRet, sRetO, sRetS, sRetN, sApp, sPop, sDrop, sRaise, sUnp, sPar, sNext, oLst, oCall, oBin, oRep, vOf, aNil, aCons, eTup, eC, eVar, eOwn, vCall, vUn, vBin, vAn, vOrr, vNo, vIf, vChain, tOf, tTru, tNo, tAn, tOrr, ioGet, List.replicate, eCall, oCallF, chkN, z_call1, z_call2, z_call3, z_io1, z_io2, z_io3, vSl, pNone, pSome, eIdx, sSetIx, stIx, sizeLine_eq, wipeE, backE])
def Cup (d : D) : Prop := ∃ c0 c1 : Int, d = .list [.int c0, .int c1] ∧ 0 ≤ c0 ∧ 0 ≤ c1 ∧ c1 < 2147483648
theorem z_mod {i j : Int} (h : j ≠ 0) : gMod (.int i) (.int j) = some (.int (i.fmod j)) := by
  show (if j ≠ 0 then some (PyData.int (i.fmod j)) else none) = _
  rw [if_pos h]
theorem z_fdiv {i j : Int} (h : 0 < j) (h2 : j < 1073741824) : gFdiv (.int i) (.int j) = some (.int (i.fdiv j)) := by
  show (if j ≠ 0 ∧ j.natAbs < 1073741824 then some (PyData.int (i.fdiv j)) else if 0 < j ∧ j.natAbs.log2 < 9000 then some (.int (i.fdiv j)) else none) = _
  rw [if_pos ⟨by omega, by omega⟩]
theorem ix20 : ixN 2 0 = some 0 := rfl
theorem ix21 : ixN 2 1 = some 1 := rfl
theorem fm {i j : Int} (h : 0 < j) : 0 ≤ i.fmod j ∧ i.fmod j < j := ⟨Int.fmod_nonneg_of_pos i h, Int.fmod_lt_of_pos i h⟩
theorem v_roll (cup : D) (many : Int) (hc : Cup cup) (h1 : 0 < many) (h2 : many < 1000000) : ∃ r cup', f__law_roll.m [cup, .int many] = .ok (.int r, cup') ∧ 0 ≤ r ∧ r < many ∧ Cup cup' := by
  obtain ⟨c0, c1, rfl, p0, p1, p2⟩ := hc
  by_cases hz : 0 < c0
  · refine ⟨c0.fmod many, .list [.int (c0.fdiv many), .int c1], ?_, (fm h1).1, (fm h1).2, _, _, rfl, Int.fdiv_nonneg p0 (by omega), p1, p2⟩
    show bodyM 4 (some 0) false m__law_roll _ = _
    unfold m__law_roll
    walk_at "ev"
    simp only [hz, decide_true, cond_true]
    try walk_at "ev"
    rw [z_mod (by omega)]
    walk_at "ev"
    rw [z_fdiv h1 (by omega)]
    walk_at "ev"
    simp [ix20]
  · have ha : -(2 ^ 64) < c1 := by omega
    have hb : c1 < 2 ^ 64 := by omega
    generalize hd : (c1 * 30493 + 8513).fmod 2147483543 = d1
    have hd2 := fm (i := c1 * 30493 + 8513) (j := 2147483543) (by omega)
    rw [hd] at hd2
    have hc' : -(2 ^ 64) < d1 := by omega
    have hd' : d1 < 2 ^ 64 := by omega
    refine ⟨((((d1 * (d1 + 269)).fmod 2147483587).fdiv 857).fmod many), .list [.int c0, .int d1], ?_, (fm h1).1, (fm h1).2, _, _, rfl, p0, by omega, by omega⟩
    show bodyM 4 (some 0) false m__law_roll _ = _
    unfold m__law_roll
    walk_at "ev"
    simp only [hz, decide_false, cond_false]
    walk_at "ev"
    rw [mul_ok ha hb]
    walk_at "ev"
    rw [z_mod (by omega), hd]
    walk_at "ev"
    simp [ix21]
    rw [mul_ok hc' hd']
    walk_at "ev"
    rw [z_mod (by omega)]
    walk_at "ev"
    rw [z_fdiv (by omega) (by omega)]
    walk_at "ev"
    rw [z_mod (by omega)]
    walk_at "ev"
theorem v_some (cup : D) (xs : List D) (hc : Cup cup) (h1 : 0 < xs.length) (h2 : xs.length < 1000000) : ∃ x cup', x ∈ xs ∧ f__law_some.m [cup, .list xs] = .ok (x, cup') ∧ Cup cup' := by
  obtain ⟨r, cup', e, r0, r1, hc'⟩ := v_roll cup xs.length hc (by omega) (by omega)
  obtain ⟨k, rfl⟩ := Int.eq_ofNat_of_zero_le r0
  have hk : k < xs.length := by omega
  refine ⟨xs[k], cup', List.getElem_mem hk, ?_, hc'⟩
  show bodyM 2 (some 0) false m__law_some _ = _
  unfold m__law_some
  walk_at "ev"
  rw [e]
  walk_at "ev"
  rw [z_atn hk]
  simp [List.getElem?_eq_getElem hk]
theorem mul_ok2 {i j : Int} (h : -(2 ^ 64) < j) (h2 : j < 2 ^ 64) : gMul (.int i) (.int j) = some (.int (i * j)) := by
  unfold gMul mulOk
  simp [h, h2]
  intro hh
  omega
theorem pow18 : gPow (.int 10) (.int 18) = some (.int 1000000000000000000) := by rfl
theorem v_cup (ns : List Int) (h : ns.length ≤ 63) : ∃ cup, f__law_cup.m [scD ns] = .ok (cup, .none) ∧ Cup cup := by
  obtain ⟨c, cs, hcs⟩ : ∃ (c : Int) (cs : List D), ns.map PyData.int ++ [.int 0] = .int c :: cs := by
    cases ns with
    | nil => exact ⟨0, [], rfl⟩
    | cons n ns => exact ⟨n, ns.map PyData.int ++ [.int 0], rfl⟩
  generalize hcell : (if c < 0 then -c else c) = cell
  have hp : 0 ≤ cell := by rw [← hcell]; split <;> omega
  have hm := fm (i := cell * 337 + 4801) (j := 2034129307) (by omega)
  refine ⟨.list [.int (if 1000000000000000000 ≤ cell then cell.fdiv 97 else 0), .int ((cell * 337 + 4801).fmod 2034129307 + 193)], ?_, _, _, rfl, ?_, by omega, by omega⟩
  · show bodyM 2 none true m__law_cup _ = _
    have hg : gList [scD ns] = some (.list (ns.map PyData.int)) := rfl
    have ha : gAdd (.list (ns.map PyData.int)) (.list [.int 0]) = some (.list (.int c :: cs)) := by
      rw [z_add_l, if_pos (by simp [sizeLine_eq]; omega), hcs]
    unfold m__law_cup
    walk_at "ev"
    rw [hg]
    walk_at "ev"
    rw [if_pos (show ns.length ≤ 16777215 by omega), hcs]
    walk_at "ev"
    rw [hcell, pow18]
    walk_at "ev"
    by_cases h1 : 1000000000000000000 ≤ cell
    · simp only [h1, decide_true, cond_true, if_true]
      try walk_at "ev"
      rw [z_fdiv (by omega) (by omega)]
      walk_at "ev"
      rw [mul_ok2 (by decide) (by decide)]
      walk_at "ev"
      rw [z_mod (by omega)]
      walk_at "ev"
    · simp only [h1, decide_false, cond_false, if_false]
      try walk_at "ev"
      rw [mul_ok2 (by decide) (by decide)]
      walk_at "ev"
      rw [z_mod (by omega)]
      walk_at "ev"
  · split
    · exact Int.fdiv_nonneg hp (by omega)
    · omega
end WL

set_option Elab.async false
set_option linter.all false
set_option maxRecDepth 100000
set_option maxHeartbeats 4000000
namespace WL
open PySem PySem.Spec PyProof.Rows L2 HotX L2H LamX TL Pc
local macro_rules | `(tactic| walk_at "ev") => `(tactic| simp [bodyM, sSeq, sIf, sSet, sSetO, sRet, sRetO, sRetS, sRetN, sApp, sPop, sDrop, sRaise, sUnp, sPar, sNext, oLst, oCall, oBin, oRep, vOf, aNil, aCons, eTup, eC, eVar, eOwn, vCall, vUn, vBin, vAn, vOrr, vNo, vIf, vChain, tOf, tTru, tNo, tAn, tOrr, ioGet, List.replicate, eCall, oCallF, chkN, z_call1, z_call2, z_call3, z_io1, z_io2, z_io3, vSl, pNone, pSome, eIdx, sizeLine_eq, wipeE, backE])
/-! ### dicts of keys -/
structure KeyE {α : Type} (enc : α → D) (ke : α → NestedKey) : Prop where
  k : ∀ a, keyD (enc a) = some (ke a)
  i : ∀ a b, ke a = ke b → a = b
  t : ∀ a, isTup (enc a) = true
  d : ∀ a, (ke a).depth ≤ 8
section
variable {α : Type} [DecidableEq α] {enc : α → D} {ke : α → NestedKey}
def dL (enc : α → D) (l : List α) : List (D × D) := l.map fun a => (enc a, .bool true)
theorem dL_tup (E : KeyE enc ke) (l : List α) : (dL enc l).all (fun p => isTup p.1) = true := by
  rw [List.all_eq_true]
  intro p hp
  obtain ⟨a, _, rfl⟩ := List.mem_map.mp hp
  exact E.t a
theorem dL_S (E : KeyE enc ke) (l : List α) : dicS (dL enc l) = true := by unfold dicS; rw [dL_tup E]; rfl
theorem dL_key (E : KeyE enc ke) (l : List α) (a : α) : keyOk (dL enc l) (enc a) = some (ke a) := by
  unfold keyOk sameSort
  rw [E.t, dL_tup E]
  simp [E.k, E.d]
theorem dL_any (E : KeyE enc ke) (l : List α) (a : α) : (dL enc l).any (fun p => decide (keyD p.1 = some (ke a))) = decide (a ∈ l) := by
  rw [Bool.eq_iff_iff, List.any_eq_true, decide_eq_true_eq]
  constructor
  · rintro ⟨p, hp, e⟩
    obtain ⟨b, hb, rfl⟩ := List.mem_map.mp hp
    have e := of_decide_eq_true e
    rw [E.k] at e
    rw [← E.i b a (Option.some.inj e)]
    exact hb
  · intro h
    exact ⟨(enc a, .bool true), List.mem_map.mpr ⟨a, h, rfl⟩, by simp [E.k]⟩
theorem dL_val (E : KeyE enc ke) (l : List α) (a : α) : (dVal (dL enc l) (ke a)).isSome = decide (a ∈ l) := by
  rw [← dL_any E]
  unfold dVal
  rw [Option.isSome_map]
  rw [Bool.eq_iff_iff, List.find?_isSome, List.any_eq_true]
theorem dL_put (E : KeyE enc ke) (l : List α) (a : α) : dPut (dL enc l) (ke a) (enc a) (.bool true) = dL enc (addK l a) := by
  unfold dPut
  rw [dL_any E]
  unfold addK
  by_cases h : a ∈ l
  · rw [if_pos (by simpa using h), if_pos h]
    conv => rhs; rw [← List.map_id (dL enc l)]
    apply List.map_congr_left
    intro p hp
    obtain ⟨b, _, rfl⟩ := List.mem_map.mp hp
    simp
  · rw [if_neg (by simpa using h), if_neg h]
    simp [dL]
theorem dL_drop (E : KeyE enc ke) (l : List α) (a : α) : dDrop (dL enc l) (ke a) = dL enc (l.filter fun x => !decide (x = a)) := by
  unfold dDrop dL
  rw [List.filter_map]
  congr 1
  apply List.filter_congr
  intro b _
  simp only [Function.comp]
  congr 1
  apply dec_iff
  rw [E.k]
  constructor
  · intro h
    exact E.i b a (Option.some.inj h)
  · intro h
    rw [h]
theorem dL_in (E : KeyE enc ke) (l : List α) (a : α) : gIn (enc a) (.dict (dL enc l)) = some (.bool (decide (a ∈ l))) := by
  unfold gIn inD
  simp only [dL_key E, Option.map_some, dL_val E]
theorem dL_len (E : KeyE enc ke) (l : List α) : gLen [.dict (dL enc l)] = some (.int l.length) := by
  show (if dicS (dL enc l) = true then some (PyData.int (dL enc l).length) else none) = _
  rw [if_pos (dL_S E l)]
  simp [dL]
theorem dL_store (E : KeyE enc ke) : ∀ (m l : List α), (l ++ m).Nodup → dStore (dL enc l) (dL enc m) = some (dL enc (l ++ m))
  | [], l, _ => by rw [List.append_nil]; rfl
  | a :: m, l, h => by
    show ((keyOk (dL enc l) (enc a)).bind fun nk => dStore (dPut (dL enc l) nk (enc a) (.bool true)) (dL enc m)) = _
    rw [dL_key E]
    show dStore (dPut (dL enc l) (ke a) (enc a) (.bool true)) (dL enc m) = _
    rw [dL_put E]
    have hn : a ∉ l := by
      intro z
      rw [List.nodup_append] at h
      exact h.2.2 a z a List.mem_cons_self rfl
    unfold addK
    rw [if_neg hn]
    have e : l ++ a :: m = (l ++ [a]) ++ m := by simp
    rw [e] at h ⊢
    exact dL_store E m _ h
theorem pairs_dL (l : List α) : TL.pairsOf (l.map fun a => .tuple [enc a, .bool true]) = some (dL enc l) := by
  induction l with
  | nil => rfl
  | cons a l ih =>
    show (TL.pairsOf (l.map fun a => .tuple [enc a, .bool true])).map ((enc a, PyData.bool true) :: ·) = _
    rw [ih]
    rfl
theorem gDict_dL (E : KeyE enc ke) (l : List α) (h : l.Nodup) (hl : l.length ≤ 1000000) : gDict [.list (l.map fun a => .tuple [enc a, .bool true])] = some (.dict (dL enc l)) := by
  show ((TL.pairsOf (l.map fun a => .tuple [enc a, .bool true])).bind fun ps => if dicS ps && decide (ps.length ≤ sizeLine) then (dStore [] ps).map PyData.dict else none) = _
  rw [pairs_dL]
  have e := dL_store E l [] (by simpa using h)
  have hl2 : (dL enc l).length ≤ sizeLine := by rw [sizeLine_eq]; simp [dL]; omega
  simp only [Option.bind_some, dL_S E, Bool.true_and, decide_eq_true hl2, if_true]
  have e : dStore [] (dL enc l) = some (dL enc l) := by simpa [dL] using e
  rw [e]
  rfl
end
def ck (c : Ce) : NestedKey := .tup [.num c.1, .num c.2]
theorem ckE : KeyE tD ck where
  k := fun a => rfl
  i := fun a b h => by
    simp only [ck, NestedKey.tup.injEq, List.cons.injEq, NestedKey.num.injEq, and_true] at h
    exact Prod.ext h.1 h.2
  t := fun a => rfl
  d := fun a => by simp [ck, NestedKey.depth, NestedKey.depthAll]
def sD (s : Ce × Ce) : D := .tuple [tD s.1, tD s.2]
def sk (s : Ce × Ce) : NestedKey := .tup [ck s.1, ck s.2]
theorem skE : KeyE sD sk where
  k := fun a => rfl
  i := fun a b h => by
    simp only [sk, NestedKey.tup.injEq, List.cons.injEq, and_true] at h
    exact Prod.ext (ckE.i _ _ h.1) (ckE.i _ _ h.2)
  t := fun a => rfl
  d := fun a => by simp [sk, ck, NestedKey.depth, NestedKey.depthAll]
/-! ### cells -/
def okc (c : Ce) : Bool := decide (-1000 ≤ c.1) && decide (c.1 ≤ 1000) && (decide (-1000 ≤ c.2) && decide (c.2 ≤ 1000))
@[simp] theorem v_is_cell (c : Ce) : f_is_cell.m [tD c] = .ok (.bool (okc c), .none) := by
  show bodyM 2 none false m_is_cell _ = _
  unfold m_is_cell
  walk_at "ev"
  have e : tD c = .tuple [.int c.1, .int c.2] := rfl
  rw [e, v_is_tuple _ _ _ (by simp)]
  walk_at "ev"
  rw [oComp_map (enc := PyData.int) (f := fun i => .bool (decide (-1000 ≤ i) && decide (i ≤ 1000))) (xs := [c.1, c.2]) (by unfold iSeq; walk_at "ev") (by rw [sizeLine_eq]; simp) (fun a ha => ⟨_, rfl, by walk_at "ev", by simp [wipeE]⟩) rfl]
  walk_at "ev"
  simp [gAll, boolsOf, okc]
theorem bools_ok {α : Type} (f : α → Bool) (l : List α) : boolsOf (l.map fun a => PyData.bool (f a)) = some (l.map f) := by
  rw [← bools_map (l.map f), List.map_map]
  rfl
theorem v_all {α : Type} (f : α → Bool) (l : List α) : gAll [.list (l.map fun a => PyData.bool (f a))] = some (.bool (l.all f)) := by
  show (boolsOf (l.map fun a => PyData.bool (f a))).map (fun bs => PyData.bool (bs.all id)) = _
  rw [bools_ok]
  simp [List.all_map]
theorem lt_ce (a b : Ce) : gLt (tD a) (tD b) = some (.bool (tl a b)) := by
  show (if okD (tD a) ∧ okD (tD b) ∧ PySem.W.alike (tD a) (tD b) = true ∧ isNone (tD a) = false then some (PyData.bool (PySem.W.dataLt (tD a) (tD b))) else none) = _
  rw [if_pos ⟨rfl, rfl, by simp [tD, PySem.W.alike, PySem.W.alikeAll], rfl⟩]
  have t : PySem.W.dataLt (tD a) (tD b) = tl a b := PySem.W.dataLt_ii _ _ _ _
  rw [t]
def nxt (P : List Ce) : List (Ce × Ce) := P.zip (P.drop 1)
theorem zip_ce (P R : List Ce) : zip2 (P.map tD) (R.map tD) = (P.zip R).map fun p => .tuple [tD p.1, tD p.2] := by
  unfold zip2
  induction P generalizing R with
  | nil => simp
  | cons a P ih => cases R with
    | nil => simp
    | cons b R => simp [ih]
theorem v_is_ascending (P : List Ce) (h : P.length ≤ 1000) : f_is_ascending.m [rD P] = .ok (.bool ((nxt P).all fun p => tl p.1 p.2), .none) := by
  show bodyM 3 none false m_is_ascending _ = _
  unfold m_is_ascending rD
  walk_at "ev"
  rw [oComp_map (enc := fun p : Ce × Ce => .tuple [tD p.1, tD p.2]) (f := fun p => .bool (tl p.1 p.2)) (xs := nxt P) (by
    unfold TL.iZip
    walk_at "ev"
    rw [show cutL (P.map tD) (some 1) none = (P.drop 1).map tD by
      by_cases h : 1 ≤ P.length
      · have := z_cut_kn (xs := P.map tD) (k := 1) (by simpa using h)
        rw [List.map_drop]
        exact this
      · have : P = [] := List.length_eq_zero_iff.mp (by omega)
        subst this; rfl]
    show (lift (some (zip2 (P.map tD) ((P.drop 1).map tD)))).bind _ = _
    rw [zip_ce]
    rfl) (by rw [sizeLine_eq]; simp [nxt]; omega) (fun a ha => ⟨_, rfl, by walk_at "ev"; rw [lt_ce]; rfl, by simp [wipeE]⟩) rfl]
  walk_at "ev"
  rw [v_all]
  walk_at "ev"
theorem v_are_cells (P : List Ce) (h : P.length ≤ 60) (h2 : P.all okc = true) (h3 : (nxt P).all (fun p => tl p.1 p.2) = true) : f_are_cells.m [rD P] = .ok (.bool true, .none) := by
  show bodyM 2 none false m_are_cells _ = _
  unfold m_are_cells
  have ht : f_is_tuple_of.m [rD P, .int 0, .int 60] = .ok (.bool true, .none) := by
    rw [show rD P = .tuple (P.map tD) from rfl, v_is_tuple _ _ _ (pl_r P)]
    simp
    omega
  have hc : oComp (iSeq (eVar 0)) [1] (bName 1) (tYesD) (eCall f_is_cell (chkN 1 (aCons (eVar 1) (aNil)))) [some (rD P), none] = .ok (.list (P.map fun c => .bool (okc c)), [some (rD P), none]) := by
    rw [oComp_map (enc := tD) (f := fun c => .bool (okc c)) (xs := P) (by unfold iSeq rD; walk_at "ev") (by rw [sizeLine_eq]; omega) (fun a ha => ⟨_, rfl, by walk_at "ev", by simp [wipeE]⟩) rfl]
  walk_at "ev"
  rw [ht]
  walk_at "ev"
  rw [hc]
  walk_at "ev"
  rw [v_all, h2]
  walk_at "ev"
  rw [v_is_ascending P (by omega), h3]
  walk_at "ev"
theorem asc_of : ∀ {P : List Ce}, Srt P → P.Nodup → (nxt P).all (fun p => tl p.1 p.2) = true
  | [], _, _ => rfl
  | [a], _, _ => rfl
  | a :: b :: P, h, n => by
    obtain ⟨h1, h2⟩ := List.pairwise_cons.mp h
    obtain ⟨n1, n2⟩ := List.nodup_cons.mp n
    have ih := asc_of h2 n2
    have e : nxt (a :: b :: P) = (a, b) :: nxt (b :: P) := rfl
    rw [e, List.all_cons, ih, Bool.and_true]
    have := cle_p.mp (h1 b List.mem_cons_self)
    have ne : a ≠ b := fun z => n1 (by rw [z]; exact List.mem_cons_self)
    unfold tl
    rw [decide_eq_true_eq]
    rcases this with z | ⟨z1, z2⟩
    · exact .inl z
    · refine .inr ⟨z1, ?_⟩
      show a.2 < b.2
      by_cases q : a.2 = b.2
      · exact absurd (Prod.ext z1 q) ne
      · omega
/-! ### neighbours, corners -/
@[simp] theorem v_neighbours (c : Ce) : f_neighbours_of.m [tD c] = .ok (.list ((nb c).map tD), .none) := by
  unfold f_neighbours_of m_neighbours_of tD
  walk_at "ev"
  simp [nb]
@[simp] theorem v_corners (c : Ce) : f_corners_of.m [tD c] = .ok (.list ((crn c).map tD), .none) := by
  unfold f_corners_of m_corners_of tD
  walk_at "ev"
  simp [crn]
end WL

set_option Elab.async false
set_option linter.all false
set_option maxRecDepth 100000
set_option maxHeartbeats 4000000
namespace WL
open PySem PySem.Spec PyProof.Rows L2 HotX L2H LamX TL Pc
local macro_rules | `(tactic| walk_at "ev") => `(tactic| simp [bodyM, sSeq, sIf, sSet, sSetO, sRet, sRetO, sRetS, sRetN, sApp, sPop, sDrop, sRaise, sUnp, sPar, sNext, oLst, oCall, oBin, oRep, vOf, aNil, aCons, eTup, eC, eVar, eOwn, vCall, vUn, vBin, vAn, vOrr, vNo, vIf, vChain, tOf, tTru, tNo, tAn, tOrr, ioGet, List.replicate, eCall, oCallF, chkN, z_call1, z_call2, z_call3, z_io1, z_io2, z_io3, vSl, pNone, pSome, eIdx, sSetIx, stIx, sPopK, dicOf, sizeLine_eq, wipeE, backE])
/-! ### do_hang -/
abbrev inB : DS := sIf (tOf (vBin gIn (eVar 4) (eOwn 1))) (sSeq (sPopK 1 (eVar 4)) (sApp 2 (eVar 4))) (sNext)
abbrev tuB : DS := sIf (tOf (vBin gLt (eVar 3) (vCall gLen (aCons (eOwn 2) (aNil))))) (sFor (iSeq (eCall f_neighbours_of (chkN f_neighbours_of.np (aCons (vBin gIx (eOwn 2) (eVar 3)) (aNil))))) (bName 4) inB) (sNext)
def hEv (P : List Ce) (s : List Ce × List Ce) (x y : Option D) : Ev := [some (rD P), some (.dict (dL tD s.1)), some (.list (s.2.map tD)), x, y, none]
theorem bstep_len (s : List Ce × List Ce) (o : Ce) : (bstep s o).1.length + (bstep s o).2.length ≤ s.1.length + s.2.length := by
  unfold bstep
  split
  · rename_i h
    have := filter_len h
    simp only [List.length_append, List.length_cons, List.length_nil]
    omega
  · exact Nat.le_refl _
theorem in_step (P : List Ce) (s : List Ce × List Ce) (x : Option D) (o : Ce) (hs : s.1.length + s.2.length ≤ 60) : inB (hEv P s x (some (tD o))) = .ok (.nx, hEv P (bstep s o) x (some (tD o))) := by
  unfold hEv bstep
  have h1 := dL_in ckE s.1 o
  by_cases h : o ∈ s.1
  · have hv := dL_val ckE s.1 o
    simp only [h, decide_true] at hv
    simp only [h, decide_true] at h1
    have hl := filter_len h
    walk_at "ev"
    rw [h1]
    walk_at "ev"
    rw [dL_key ckE]
    walk_at "ev"
    rw [hv]
    simp only [if_true]
    walk_at "ev"
    rw [dL_drop ckE, if_pos (by omega)]
    simp [h]
  · simp only [h, decide_false] at h1
    walk_at "ev"
    rw [h1]
    walk_at "ev"
    simp [h]
theorem tu_step (P : List Ce) (s : List Ce × List Ce) (y : Option D) (i : Nat) (hs : s.1.length + s.2.length ≤ 60) : ∃ y', tuB (hEv P s (some (.int (i : Nat))) y) = .ok (.nx, hEv P (bturn s i) (some (.int (i : Nat))) y') ∧ (bturn s i).1.length + (bturn s i).2.length ≤ 60 := by
  unfold bturn
  by_cases h : i < s.2.length
  · have hi : s.2[i]? = some s.2[i] := List.getElem?_eq_getElem h
    rw [hi]
    generalize s.2[i] = c at hi
    obtain ⟨ev', e1, y', rfl, h2⟩ := forL_inv (b := bName 4) (body := inB) (enc := tD) bstep (fun s ev => ∃ y, ev = hEv P s (some (.int (i : Nat))) y ∧ s.1.length + s.2.length ≤ 60) (xs := nb c) (s := s) (ev := hEv P s (some (.int (i : Nat))) y) (fun a _ s ev hI => by
      obtain ⟨y, rfl, hl⟩ := hI
      have := bstep_len s a
      exact ⟨_, _, .nx, rfl, in_step P s _ a hl, .inl rfl, _, rfl, by omega⟩) ⟨_, rfl, hs⟩
    refine ⟨y', ?_, h2⟩
    have hx : atI (s.2.map tD) (i : Int) = some (tD c) := by
      rw [z_atn (by simpa using h)]
      simp [hi]
    have hy : hEv P s (some (.int (i : Nat))) y = [some (rD P), some (.dict (dL tD s.1)), some (.list (s.2.map tD)), some (.int (i : Nat)), y, none] := rfl
    rw [hy] at e1 ⊢
    unfold tuB
    walk_at "ev"
    simp only [h, decide_true, cond_true]
    unfold sFor iSeq
    walk_at "ev"
    rw [hx]
    walk_at "ev"
    exact e1
  · have hi : s.2[i]? = none := List.getElem?_eq_none (by omega)
    rw [hi]
    refine ⟨y, ?_, hs⟩
    unfold hEv tuB
    walk_at "ev"
    have : ¬ (i < s.2.length) := h
    simp [this]
theorem v_do_hang (h : Ce) (r : List Ce) (hn : (h :: r).Nodup) (hl : (h :: r).length ≤ 60) : f_do_hang.m [rD (h :: r)] = .ok (.bool (bfs h (h :: r)).1.isEmpty, .none) := by
  generalize hP : h :: r = P at hn hl
  have e0 : gEq (rD P) (.tuple []) = some (.bool false) := by
    have := v_eq P []
    rw [← hP] at this ⊢
    simpa [rD] using this
  have hh : h ∈ P := by rw [← hP]; exact List.mem_cons_self
  have e1 : atI (P.map tD) 0 = some (tD h) := by rw [← hP]; exact z_at0
  have e2 : oComp (iSeq (eVar 0)) [5] (bName 5) (tYesD) (eTup (aCons (eVar 5) (aCons (eC (.bool true)) (aNil)))) [some (rD P), none, none, none, none, none] = .ok (.list (P.map fun c => .tuple [tD c, .bool true]), [some (rD P), none, none, none, none, none]) := by
    rw [oComp_map (enc := tD) (f := fun c => .tuple [tD c, .bool true]) (xs := P) (by unfold iSeq rD; walk_at "ev") (by rw [sizeLine_eq]; omega) (fun a ha => ⟨_, rfl, by walk_at "ev", by simp [wipeE]⟩) rfl]
  have hs0 : (P.filter (fun x => !decide (x = h))).length + 1 ≤ P.length := filter_len hh
  have key : ∀ I : DI, (I (hEv P (P.filter (fun x => !decide (x = h)), [h]) none none) = .ok ((List.range P.length).map fun i => .int (i : Nat), hEv P (P.filter (fun x => !decide (x = h)), [h]) none none)) →
      bodyM 6 none false (sSeq (sIf (tOf (vBin gEq (eVar 0) (eTup (aNil)))) (sRet (eC (.bool true))) (sNext)) (sSeq (sSetO 1 (oCall gDict (aCons (vOf (oComp (iSeq (eVar 0)) [5] (bName 5) (tYesD) (eTup (aCons (eVar 5) (aCons (eC (.bool true)) (aNil)))))) (aNil)))) (sSeq (sSetO 2 (oLst (aCons (vBin gIx (eVar 0) (eC (.int 0))) (aNil)))) (sSeq (sPopK 1 (vBin gIx (eVar 0) (eC (.int 0)))) (sSeq (sFor I (bName 3) tuB) (sRet (vBin gEqE (eOwn 1) (vOf (oNewD)))))))))
        [rD P] = .ok (.bool (bfs h P).1.isEmpty, .none) := by
    intro I hI
    walk_at "ev"
    rw [e0]
    walk_at "ev"
    rw [e2]
    walk_at "ev"
    rw [gDict_dL ckE P hn (by omega)]
    walk_at "ev"
    have hx : gIx (rD P) (.int 0) = some (tD h) := e1
    rw [hx]
    walk_at "ev"
    rw [hx]
    walk_at "ev"
    rw [dL_key ckE]
    walk_at "ev"
    rw [dL_val ckE]
    simp only [hh, decide_true, if_true]
    walk_at "ev"
    rw [dL_drop ckE]
    unfold sFor
    have hI2 := hI
    unfold hEv at hI
    simp only [List.map_cons, List.map_nil] at hI
    rw [hI]
    simp only [Res.bind_ok]
    obtain ⟨ev', e3, x, y, rfl, hl2⟩ := forL_inv (b := bName 3) (body := tuB) (enc := fun i : Nat => .int (i : Nat)) bturn (fun s ev => ∃ x y, ev = hEv P s x y ∧ s.1.length + s.2.length ≤ 60) (xs := List.range P.length) (s := (P.filter (fun x => !decide (x = h)), [h])) (ev := hEv P (P.filter (fun x => !decide (x = h)), [h]) none none) (fun a _ s ev hI => by
      obtain ⟨x, y, rfl, hl⟩ := hI
      obtain ⟨y', q1, q2⟩ := tu_step P s y a hl
      exact ⟨_, _, .nx, rfl, q1, .inl rfl, _, _, rfl, q2⟩) ⟨_, _, rfl, by simp only [List.length_cons, List.length_nil]; omega⟩
    unfold hEv at e3
    simp only [List.map_cons, List.map_nil] at e3
    rw [e3]
    simp only [Res.bind_ok]
    unfold oNewD
    walk_at "ev"
    have q : gEqE (.dict (dL tD (bfs h P).1)) (.dict []) = some (.bool (bfs h P).1.isEmpty) := by
      show (if dicS (dL tD (bfs h P).1) = true then some (PyData.bool (dL tD (bfs h P).1).isEmpty) else none) = _
      rw [if_pos (dL_S ckE _)]
      simp [dL]
    unfold bfs at q ⊢
    rw [q]
    walk_at "ev"
  exact key _ (iRng1_ok (n := P.length) (by unfold hEv rD; walk_at "ev") (by omega))
end WL

set_option Elab.async false
set_option linter.all false
set_option maxRecDepth 100000
set_option maxHeartbeats 4000000
namespace WL
open PySem PySem.Spec PyProof.Rows L2 HotX L2H LamX TL Pc
local macro_rules | `(tactic| walk_at "ev") => `(tactic| simp [bodyM, sSeq, sIf, sSet, sSetO, sRet, sRetO, sRetS, sRetN, sApp, sPop, sDrop, sRaise, sUnp, sPar, sNext, oLst, oCall, oBin, oRep, vOf, aNil, aCons, eTup, eC, eVar, eOwn, vCall, vUn, vBin, vAn, vOrr, vNo, vIf, vChain, tOf, tTru, tNo, tAn, tOrr, ioGet, List.replicate, eCall, oCallF, chkN, z_call1, z_call2, z_call3, z_io1, z_io2, z_io3, vSl, pNone, pSome, eIdx, sSetIx, stIx, sPopK, dicOf, sizeLine_eq, wipeE, backE])
/-! ### counts_in -/
def prs (c : Ce) : List (Ce × Ce) := [((c.1, c.2), (c.1 + 1, c.2)), ((c.1 + 1, c.2), (c.1 + 1, c.2 + 1)), ((c.1 + 1, c.2 + 1), (c.1, c.2 + 1)), ((c.1, c.2 + 1), (c.1, c.2))]
def nrm (p : Ce × Ce) : Ce × Ce := (if tl p.2 p.1 = true then p.2 else p.1, if tl p.1 p.2 = true then p.2 else p.1)
abbrev KS := List Ce × List (Ce × Ce)
def kstep (s : KS) (p : Ce × Ce) : KS := (addK s.1 p.1, addK s.2 (nrm p))
def cstep (s : KS) (c : Ce) : KS := ((crn c).foldl addK s.1, (sds c).foldl addK s.2)
theorem prs_fold (s : KS) (c : Ce) : (prs c).foldl kstep s = cstep s c := by
  obtain ⟨x, y⟩ := c
  have n1 : nrm ((x, y), (x + 1, y)) = ((x, y), (x + 1, y)) := by simp [nrm, tl]; omega
  have n2 : nrm ((x + 1, y), (x + 1, y + 1)) = ((x + 1, y), (x + 1, y + 1)) := by simp [nrm, tl]; omega
  have n3 : nrm ((x + 1, y + 1), (x, y + 1)) = ((x, y + 1), (x + 1, y + 1)) := by simp [nrm, tl]; omega
  have n4 : nrm ((x, y + 1), (x, y)) = ((x, y), (x, y + 1)) := by simp [nrm, tl]; omega
  simp only [prs, cstep, crn, sds, List.foldl_cons, List.foldl_nil, kstep, n1, n2, n3, n4]
theorem cfold : ∀ (P : List Ce) (s : KS), P.foldl cstep s = ((P.flatMap crn).foldl addK s.1, (P.flatMap sds).foldl addK s.2)
  | [], s => rfl
  | c :: P, s => by
    rw [List.foldl_cons, cfold P, List.flatMap_cons, List.flatMap_cons, List.foldl_append, List.foldl_append]
    rfl
theorem addK_len {α : Type} [DecidableEq α] (l : List α) (k : α) : (addK l k).length ≤ l.length + 1 := by
  unfold addK
  split
  · omega
  · simp
theorem min2_ce (p q : Ce) : gMin2 [tD p, tD q] = some (tD (if tl q p = true then q else p)) := by
  have hm : minOk (tD p) [tD q] = true := by
    unfold minOk
    simp [tD, PySem.W.alike, PySem.W.alikeAll, okD, PyData.plain, PyData.depth, PyData.depthAll, isNone]
  show (if minOk (tD p) [tD q] = true then some (PySem.W.minD (tD p) [tD q]) else none) = _
  rw [if_pos hm]
  unfold PySem.W.minD
  simp only [List.foldl_cons, List.foldl_nil]
  have t : PySem.W.dataLt (tD q) (tD p) = tl q p := PySem.W.dataLt_ii _ _ _ _
  rw [t]
  split <;> rfl
theorem max2_ce (p q : Ce) : gMax2 [tD p, tD q] = some (tD (if tl p q = true then q else p)) := by
  have hm : minOk (tD p) [tD q] = true := by
    unfold minOk
    simp [tD, PySem.W.alike, PySem.W.alikeAll, okD, PyData.plain, PyData.depth, PyData.depthAll, isNone]
  show (if minOk (tD p) [tD q] = true then some (PySem.W.maxD (tD p) [tD q]) else none) = _
  rw [if_pos hm]
  unfold PySem.W.maxD
  simp only [List.foldl_cons, List.foldl_nil]
  have t : PySem.W.dataLt (tD p) (tD q) = tl p q := PySem.W.dataLt_ii _ _ _ _
  rw [t]
  split <;> rfl
abbrev ctB : DS := sSeq (sSetIx 1 (eVar 5) (eC (.bool true))) (sSetIx 2 (eTup (aCons (vCall gMin2 (aCons (eVar 5) (aCons (eVar 6) (aNil)))) (aCons (vCall gMax2 (aCons (eVar 5) (aCons (eVar 6) (aNil)))) (aNil)))) (eC (.bool true)))
abbrev ccB : DS := sSeq (sSet 4 (eCall f_corners_of (chkN f_corners_of.np (aCons (eVar 3) (aNil))))) (sFor (iZip (aCons (eVar 4) (aCons (vBin gAdd (vSl (eVar 4) (pSome (eC (.int 1))) (pNone)) (vSl (eVar 4) (pNone) (pSome (eC (.int 1))))) (aNil)))) (bTup 2 (bCons (bName 5) (bCons (bName 6) (bNil)))) ctB)
def cEv (P : List Ce) (s : KS) (a b c d : Option D) : Ev := [some (rD P), some (.dict (dL tD s.1)), some (.dict (dL sD s.2)), a, b, c, d]
theorem ct_step (P : List Ce) (s : KS) (a b : Option D) (p : Ce × Ce) (h1 : s.1.length < 1000) (h2 : s.2.length < 1000) : ctB (cEv P s a b (some (tD p.1)) (some (tD p.2))) = .ok (.nx, cEv P (kstep s p) a b (some (tD p.1)) (some (tD p.2))) := by
  unfold cEv kstep ctB
  walk_at "ev"
  rw [dL_key ckE]
  walk_at "ev"
  rw [if_pos (by simp [dL]; omega), dL_put ckE]
  walk_at "ev"
  rw [min2_ce]
  walk_at "ev"
  rw [max2_ce]
  walk_at "ev"
  have e : PyData.tuple [tD (if tl p.2 p.1 = true then p.2 else p.1), tD (if tl p.1 p.2 = true then p.2 else p.1)] = sD (nrm p) := rfl
  rw [e, dL_key skE]
  walk_at "ev"
  rw [if_pos (by simp [dL]; omega), dL_put skE]
  walk_at "ev"
theorem cc_step (P : List Ce) (s : KS) (b c d : Option D) (x : Ce) (h1 : s.1.length < 900) (h2 : s.2.length < 900) : ∃ b' c' d', ccB (cEv P s (some (tD x)) b c d) = .ok (.nx, cEv P (cstep s x) (some (tD x)) b' c' d') ∧ (cstep s x).1.length ≤ s.1.length + 4 ∧ (cstep s x).2.length ≤ s.2.length + 4 := by
  obtain ⟨ev', e1, c', d', rfl, h3, h4⟩ := forL_ix (b := bTup 2 (bCons (bName 5) (bCons (bName 6) (bNil)))) (body := ctB) (enc := fun p : Ce × Ce => .tuple [tD p.1, tD p.2]) kstep (fun n t ev => ∃ c d, ev = cEv P t (some (tD x)) (some (.list ((crn x).map tD))) c d ∧ t.1.length ≤ s.1.length + n ∧ t.2.length ≤ s.2.length + n) (xs := prs x) 0 (s := s) (ev := cEv P s (some (tD x)) (some (.list ((crn x).map tD))) c d) (fun i a ha t ev hI => by
    obtain ⟨c, d, rfl, q1, q2⟩ := hI
    have hi : i < 4 := (List.getElem?_eq_some_iff.mp ha).1
    have := addK_len t.1 a.1
    have := addK_len t.2 (nrm a)
    refine ⟨_, _, .nx, rfl, ct_step P t _ _ a (by omega) (by omega), .inl rfl, _, _, rfl, ?_, ?_⟩
    · show (addK t.1 a.1).length ≤ _; omega
    · show (addK t.2 (nrm a)).length ≤ _; omega) ⟨_, _, rfl, Nat.le_refl _, Nat.le_refl _⟩
  rw [prs_fold] at e1 h3 h4
  have l4 : (prs x).length = 4 := rfl
  rw [l4] at h3 h4
  refine ⟨some (.list ((crn x).map tD)), c', d', ?_, by omega, by omega⟩
  unfold ccB sFor TL.iZip
  unfold cEv at e1 ⊢
  walk_at "ev"
  have hz : cutL ((crn x).map tD) (some 1) none ++ cutL ((crn x).map tD) none (some 1) = ((crn x).drop 1 ++ (crn x).take 1).map tD := by
    rfl
  rw [if_pos (by simp [cutL, crn]; omega), hz]
  walk_at "ev"
  have hq : zipD [.list ((crn x).map tD), .list (((crn x).map tD).tail ++ ((crn x).map tD).take 1)] = some ((prs x).map fun p => .tuple [tD p.1, tD p.2]) := rfl
  have hq2 := hq
  try simp only [List.map_tail] at hq
  first | rw [hq] | rw [hq2]
  simp only [lift_some, Res.bind_ok]
  exact e1
theorem sFor_of {it : DI} {b : D → Ev → Option Ev} {body : DS} {ev ev1 : Ev} {ds : List D} (h : it ev = .ok (ds, ev1)) : sFor it b body ev = forL b body ds ev1 := by
  unfold sFor
  rw [h]
  rfl
theorem v_counts (P : List Ce) (hl : P.length ≤ 60) : f_counts_in.m [rD P] = .ok (.tuple [.int (nV P), .int (nE P), .int P.length], .none) := by
  obtain ⟨ev', e1, a, b, c, d, rfl, _, _⟩ := forL_ix (b := bName 3) (body := ccB) (enc := tD) cstep (fun n s ev => ∃ a b c d, ev = cEv P s a b c d ∧ s.1.length ≤ 4 * n ∧ s.2.length ≤ 4 * n) (xs := P) 0 (s := ([], [])) (ev := cEv P ([], []) none none none none) (fun i x hx s ev hI => by
    obtain ⟨a, b, c, d, rfl, h1, h2⟩ := hI
    have hi : i < P.length := (List.getElem?_eq_some_iff.mp hx).1
    obtain ⟨b', c', d', q1, q2, q3⟩ := cc_step P s b c d x (by omega) (by omega)
    exact ⟨_, _, .nx, rfl, q1, .inl rfl, _, _, _, _, rfl, by omega, by omega⟩) ⟨_, _, _, _, rfl, by simp, by simp⟩
  rw [cfold] at e1
  show bodyM 7 none false m_counts_in _ = _
  unfold m_counts_in
  unfold oNewD
  walk_at "ev"
  have hit : iSeq (eVar 0) (cEv P ([], []) none none none none) = .ok (P.map tD, cEv P ([], []) none none none none) := by
    unfold iSeq cEv
    walk_at "ev"
    rfl
  have e2 := (sFor_of (b := bName 3) (body := ccB) hit).trans e1
  unfold cEv at e2
  have d1 : dL tD [] = [] := rfl
  have d2 : dL sD [] = [] := rfl
  unfold ccB ctB at e2
  simp only [d1, d2, znp_corners_of] at e2
  rw [e2]
  simp only [Res.bind_ok]
  have k1 := dL_len ckE ((P.flatMap crn).foldl addK [])
  have k2 := dL_len skE ((P.flatMap sds).foldl addK [])
  have k3 : gLen [rD P] = some (.int P.length) := by simp [rD]
  walk_at "ev"
  rw [k1]
  walk_at "ev"
  rw [k2]
  walk_at "ev"
  rw [k3]
  walk_at "ev"
  exact ⟨rfl, rfl⟩
/-! ### is_piece -/
theorem v_is_piece (P : List Ce) (g : Good 1000 P) (hs : Srt P) : f_is_piece.m [rD P] = .ok (.bool true, .none) := by
  cases hP : P with
  | nil => exact absurd hP g.ne
  | cons h r =>
    have hl : (h :: r).length ≤ 60 := by rw [← hP]; exact g.len
    have e1 := v_are_cells (h :: r) hl (by
      rw [List.all_eq_true]
      intro c hc
      have := g.bd c (by rw [hP]; exact hc)
      unfold okc
      simp only [Bool.and_eq_true, decide_eq_true_eq]
      omega) (asc_of (by rw [← hP]; exact hs) (by rw [← hP]; exact g.nd))
    have e2 : gEq (rD (h :: r)) (.tuple []) = some (.bool false) := by simpa [rD] using v_eq (h :: r) []
    have e3 := v_do_hang h r (by rw [← hP]; exact g.nd) hl
    rw [bfs_ok List.mem_cons_self (by rw [← hP]; exact g.hg)] at e3
    have e4 := v_counts (h :: r) hl
    have e5 := g.ch
    rw [hP] at e5
    unfold chi at e5
    unfold f_is_piece m_is_piece
    walk_at "ev"
    rw [e1]
    walk_at "ev"
    rw [e2]
    walk_at "ev"
    rw [e3]
    walk_at "ev"
    rw [e4]
    walk_at "ev"
    simpa using e5
theorem v_need (P : List Ce) (g : Good 1000 P) (hs : Srt P) : f_need_piece.m [rD P] = .ok (.none, .none) := by
  unfold f_need_piece m_need_piece
  walk_at "ev"
  rw [v_is_piece P g hs]
  walk_at "ev"
end WL

set_option Elab.async false
set_option linter.all false
set_option maxRecDepth 100000
set_option maxHeartbeats 4000000
namespace WL
open PySem PySem.Spec PyProof.Rows L2 HotX L2H LamX TL Pc
local macro_rules | `(tactic| walk_at "ev") => `(tactic| simp [bodyM, sSeq, sIf, sSet, sSetO, sRet, sRetO, sRetS, sRetN, sApp, sPop, sDrop, sRaise, sUnp, sPar, sNext, oLst, oCall, oBin, oRep, vOf, aNil, aCons, eTup, eC, eVar, eOwn, vCall, vUn, vBin, vAn, vOrr, vNo, vIf, vChain, tOf, tTru, tNo, tAn, tOrr, ioGet, List.replicate, eCall, oCallF, chkN, z_call1, z_call2, z_call3, z_io1, z_io2, z_io3, vSl, pNone, pSome, eIdx, sizeLine_eq, wipeE, backE])
/-! ### sorted, min -/
theorem dle_ce (a b : Ce) : PySem.W.dataLe false (fun d : D => d) (tD a) (tD b) = cle a b := by
  rw [PySem.W.dataLe_eq]
  show (!PySem.W.dataLt (tD b) (tD a)) = _
  have t : PySem.W.dataLt (tD b) (tD a) = tl b a := PySem.W.dataLt_ii _ _ _ _
  rw [t, Bool.eq_iff_iff, Bool.not_eq_true', cle_p]
  unfold tl
  rw [decide_eq_false_iff_not]
  omega
theorem sort_ce (P : List Ce) : TL.sortD (P.map tD) = (srt P).map tD := by
  unfold TL.sortD
  rw [← List.map_mergeSort (r := cle) (f := tD) (fun a _ b _ => (dle_ce a b).symm)]
  congr 1
  refine srt_uni ?_ (srt_srt P) ((List.mergeSort_perm P cle).trans (srt_perm P).symm)
  exact List.pairwise_mergeSort (le := cle) (fun a b c h k => cle_trans h k) (fun (a b : Ce) => by rw [Bool.or_eq_true]; exact cle_total a b) P
theorem alike_ce (a b : Ce) : PySem.W.alike (tD a) (tD b) = true := by simp [tD, PySem.W.alike, PySem.W.alikeAll]
theorem sorted_ce (P : List Ce) : gSorted [.list (P.map tD)] = some (.list ((srt P).map tD)) := by
  have h : sortOk (P.map tD) = true := by
    unfold sortOk
    rw [Bool.and_eq_true, Bool.and_eq_true, Bool.or_eq_true]
    refine ⟨⟨okD_tD P, ?_⟩, .inl ?_⟩
    · rw [List.all_eq_true]
      intro a ha
      rw [List.all_eq_true]
      intro b hb
      obtain ⟨x, _, rfl⟩ := List.mem_map.mp ha
      obtain ⟨y, _, rfl⟩ := List.mem_map.mp hb
      exact alike_ce x y
    · rw [List.all_eq_true]
      intro a ha
      obtain ⟨x, _, rfl⟩ := List.mem_map.mp ha
      rfl
  show (if sortOk (P.map tD) then some (PyData.list (TL.sortD (P.map tD))) else none) = _
  rw [if_pos h, sort_ce]
theorem ints_ok (l : List Int) : PyData.plainAll (l.map PyData.int) = true ∧ PyData.depthAll (l.map PyData.int) = 0 := by
  induction l with
  | nil => exact ⟨rfl, rfl⟩
  | cons a l ih => simp [PyData.depthAll, PyData.depth, ih]
theorem minD_lo : ∀ (l : List Int) (a : Int), PySem.W.minD (.int a) (l.map PyData.int) = .int (l.foldl (fun x y => if y < x then y else x) a)
  | [], a => rfl
  | b :: l, a => by
    have ih := minD_lo l (if b < a then b else a)
    unfold PySem.W.minD at ih ⊢
    rw [List.map_cons, List.foldl_cons, List.foldl_cons, ← ih]
    congr 1
    rw [PySem.W.dataLt_int]
    by_cases h : b < a <;> simp [h]
theorem min_ints (l : List Int) (h : l ≠ []) : gMin [.list (l.map PyData.int)] = some (.int (lo l)) := by
  cases l with
  | nil => exact absurd rfl h
  | cons a l =>
    have hm : minOk (.int a) (l.map PyData.int) = true := by
      obtain ⟨p, d⟩ := ints_ok (a :: l)
      have ho : okD (.list ((a :: l).map PyData.int)) = true := by
        unfold okD
        rw [Bool.and_eq_true]
        exact ⟨p, decide_eq_true (by show PyData.depthAll ((a :: l).map PyData.int) + 1 ≤ 60; omega)⟩
      unfold minOk
      rw [Bool.and_eq_true, Bool.and_eq_true]
      refine ⟨⟨ho, ?_⟩, ?_⟩
      · rw [List.all_eq_true]
        intro x hx
        rw [List.all_eq_true]
        intro y hy
        obtain ⟨i, _, rfl⟩ := List.mem_map.mp (show x ∈ (a :: l).map PyData.int from hx)
        obtain ⟨j, _, rfl⟩ := List.mem_map.mp (show y ∈ (a :: l).map PyData.int from hy)
        rfl
      · rw [List.all_eq_true]
        intro x hx
        obtain ⟨i, _, rfl⟩ := List.mem_map.mp (show x ∈ (a :: l).map PyData.int from hx)
        rfl
    show (if minOk (.int a) (l.map PyData.int) = true then some (PySem.W.minD (.int a) (l.map PyData.int)) else none) = _
    rw [if_pos hm, minD_lo]
    rfl
/-! ### placed -/
theorem v_placed_in (d : D) (P : List Ce) (hd : seqOf d = some (P.map tD)) (hn : P ≠ []) (hl : P.length ≤ 1000) : f_placed_in.m [d] = .ok (rD (plc P), .none) := by
  have it : ∀ a b, iSeq (eVar 0) [some d, a, b, none, none] = .ok (P.map tD, [some d, a, b, none, none]) := fun a b => by
    unfold iSeq
    walk_at "ev"
    rw [hd]
    rfl
  have c1 : oComp (iSeq (eVar 0)) [3, 4] (bTup 2 (bCons (bName 3) (bCons (bName 4) (bNil)))) (tYesD) (eVar 3) [some d, none, none, none, none] = .ok (.list ((P.map (·.1)).map PyData.int), [some d, none, none, none, none]) := by
    rw [oComp_map (enc := tD) (f := fun c => .int c.1) (xs := P) (it _ _) (by rw [sizeLine_eq]; omega) (fun a ha => ⟨_, rfl, by walk_at "ev", by simp [wipeE]⟩) rfl, List.map_map]
    rfl
  have c2 : oComp (iSeq (eVar 0)) [3, 4] (bTup 2 (bCons (bName 3) (bCons (bName 4) (bNil)))) (tYesD) (eVar 4) [some d, none, none, none, none] = .ok (.list ((P.map (·.2)).map PyData.int), [some d, none, none, none, none]) := by
    rw [oComp_map (enc := tD) (f := fun c => .int c.2) (xs := P) (it _ _) (by rw [sizeLine_eq]; omega) (fun a ha => ⟨_, rfl, by walk_at "ev", by simp [wipeE]⟩) rfl, List.map_map]
    rfl
  have c3 : oComp (iSeq (eVar 0)) [3, 4] (bTup 2 (bCons (bName 3) (bCons (bName 4) (bNil)))) (tYesD) (eTup (aCons (vBin TL.gSub (eVar 3) (eVar 1)) (aCons (vBin TL.gSub (eVar 4) (eVar 2)) (aNil)))) [some d, some (.int (low P).1), some (.int (low P).2), none, none] = .ok (.list ((P.map (mv (low P))).map tD), [some d, some (.int (low P).1), some (.int (low P).2), none, none]) := by
    rw [oComp_map (enc := tD) (f := fun c => tD (mv (low P) c)) (xs := P) (it _ _) (by rw [sizeLine_eq]; omega) (fun a ha => ⟨_, rfl, by walk_at "ev"; rfl, by simp [wipeE]⟩) rfl, List.map_map]
    rfl
  have m1 := min_ints (P.map (·.1)) (by simpa using hn)
  have m2 := min_ints (P.map (·.2)) (by simpa using hn)
  have s3 := sorted_ce (P.map (mv (low P)))
  generalize (P.map (·.1)).map PyData.int = X1 at c1 m1
  generalize (P.map (·.2)).map PyData.int = X2 at c2 m2
  have e1 : Pc.lo (P.map (·.1)) = (low P).1 := rfl
  have e2 : Pc.lo (P.map (·.2)) = (low P).2 := rfl
  rw [e1] at m1
  rw [e2] at m2
  have e3 : rD (plc P) = .tuple ((srt (P.map (mv (low P)))).map tD) := rfl
  rw [e3]
  generalize (srt (P.map (mv (low P)))).map tD = X4 at s3
  generalize (P.map (mv (low P))).map tD = X3 at c3 s3
  unfold f_placed_in m_placed_in
  walk_at "ev"
  rw [c1]
  walk_at "ev"
  rw [m1]
  walk_at "ev"
  rw [c2]
  walk_at "ev"
  rw [m2]
  walk_at "ev"
  rw [c3]
  walk_at "ev"
  rw [s3]
  walk_at "ev"
end WL

set_option Elab.async false
set_option linter.all false
set_option maxRecDepth 100000
set_option maxHeartbeats 4000000
namespace WL
open PySem PySem.Spec PyProof.Rows L2 HotX L2H LamX TL Pc
local macro_rules | `(tactic| walk_at "ev") => `(tactic| simp [bodyM, sSeq, sIf, sSet, sSetO, sRet, sRetO, sRetS, sRetN, sApp, sPop, sDrop, sRaise, sUnp, sPar, sNext, oLst, oCall, oBin, oRep, vOf, aNil, aCons, eTup, eC, eVar, eOwn, vCall, vUn, vBin, vAn, vOrr, vNo, vIf, vChain, tOf, tTru, tNo, tAn, tOrr, ioGet, List.replicate, eCall, oCallF, chkN, z_call1, z_call2, z_call3, z_io1, z_io2, z_io3, vSl, pNone, pSome, eIdx, sizeLine_eq, wipeE, backE])
def minL : List (List Ce) → List Ce
  | [] => []
  | x :: xs => minR x xs
theorem alike_rows (a b : List Ce) : PySem.W.alike (rD a) (rD b) = true := by
  show PySem.W.alikeAll (a.map tD) (b.map tD) = true
  induction a generalizing b with
  | nil => rfl
  | cons p a ih =>
    cases b with
    | nil => rfl
    | cons q b => simp [PySem.W.alikeAll, ih, tD, PySem.W.alike]
theorem dep_rows : ∀ (L : List (List Ce)), PyData.depthAll (L.map rD) ≤ 2
  | [] => by simp [PyData.depthAll]
  | r :: L => by
    have := dep_rows L
    have h := dep_r r
    simp only [List.map_cons, PyData.depthAll]
    have : (rD r).depth = PyData.depthAll (r.map tD) + 1 := rfl
    omega
theorem pl_rows : ∀ (L : List (List Ce)), PyData.plainAll (L.map rD) = true
  | [] => rfl
  | r :: L => by simp [pl_rows L]
theorem okD_rows (L : List (List Ce)) : okD (.list (L.map rD)) = true := by
  have := dep_rows L
  unfold okD
  rw [Bool.and_eq_true]
  exact ⟨pl_rows L, decide_eq_true (by show PyData.depthAll (L.map rD) + 1 ≤ 60; omega)⟩
theorem v_min {L : List (List Ce)} (h : L ≠ []) : gMin [.list (L.map rD)] = some (rD (minL L)) := by
  cases L with
  | nil => exact absurd rfl h
  | cons x xs =>
    have hm : minOk (rD x) (xs.map rD) = true := by
      unfold minOk
      have e1 : rD x :: xs.map rD = (x :: xs).map rD := rfl
      rw [e1, okD_rows]
      simp only [Bool.true_and, Bool.and_eq_true]
      refine ⟨?_, ?_⟩
      · rw [List.all_eq_true]
        intro a ha
        rw [List.all_eq_true]
        intro b hb
        obtain ⟨a', _, rfl⟩ := List.mem_map.mp ha
        obtain ⟨b', _, rfl⟩ := List.mem_map.mp hb
        exact alike_rows _ _
      · rw [List.all_eq_true]
        intro a ha
        obtain ⟨a', _, rfl⟩ := List.mem_map.mp ha
        rfl
    show (if minOk (rD x) (xs.map rD) = true then some (PySem.W.minD (rD x) (xs.map rD)) else none) = _
    rw [if_pos hm, minD_rows]
    rfl

/-! ### turned, mirrored, forms -/
theorem frm1 (P : List Ce) : frm 1 P = plc (P.map tq) := rfl
theorem frm4 (P : List Ce) : frm 4 P = plc (P.map mq) := rfl
theorem plc_len (P : List Ce) : (plc P).length = P.length := by
  unfold plc
  rw [(srt_perm _).length_eq, List.length_map]
theorem frm_len (i : Nat) (P : List Ce) : (frm i P).length = P.length := by
  unfold frm
  rw [plc_len, List.length_map]
theorem frm_ne {i : Nat} {P : List Ce} (h : P ≠ []) : frm i P ≠ [] := fun e => h (List.length_eq_zero_iff.mp (by rw [← frm_len i P, e]; rfl))
theorem v_turned_in (P : List Ce) (hn : P ≠ []) (hl : P.length ≤ 1000) : f_turned_in.m [rD P] = .ok (rD (frm 1 P), .none) := by
  have c : oComp (iSeq (eVar 0)) [1, 2] (bTup 2 (bCons (bName 1) (bCons (bName 2) (bNil)))) (tYesD) (eTup (aCons (vUn gNeg (eVar 2)) (aCons (eVar 1) (aNil)))) [some (rD P), none, none] = .ok (.list ((P.map tq).map tD), [some (rD P), none, none]) := by
    rw [oComp_map (enc := tD) (f := fun c => tD (tq c)) (xs := P) (by unfold iSeq rD; walk_at "ev") (by rw [sizeLine_eq]; omega) (fun a ha => ⟨_, rfl, by walk_at "ev"; rfl, by simp [wipeE]⟩) rfl, List.map_map]
    rfl
  have e := v_placed_in (.list ((P.map tq).map tD)) (P.map tq) rfl (by simpa using hn) (by simpa using hl)
  rw [frm1]
  generalize (P.map tq).map tD = X at c e
  unfold f_turned_in m_turned_in
  walk_at "ev"
  rw [c]
  walk_at "ev"
  rw [e]
  walk_at "ev"
theorem v_mirrored_in (P : List Ce) (hn : P ≠ []) (hl : P.length ≤ 1000) : f_mirrored_in.m [rD P] = .ok (rD (frm 4 P), .none) := by
  have c : oComp (iSeq (eVar 0)) [1, 2] (bTup 2 (bCons (bName 1) (bCons (bName 2) (bNil)))) (tYesD) (eTup (aCons (vUn gNeg (eVar 1)) (aCons (eVar 2) (aNil)))) [some (rD P), none, none] = .ok (.list ((P.map mq).map tD), [some (rD P), none, none]) := by
    rw [oComp_map (enc := tD) (f := fun c => tD (mq c)) (xs := P) (by unfold iSeq rD; walk_at "ev") (by rw [sizeLine_eq]; omega) (fun a ha => ⟨_, rfl, by walk_at "ev"; rfl, by simp [wipeE]⟩) rfl, List.map_map]
    rfl
  have e := v_placed_in (.list ((P.map mq).map tD)) (P.map mq) rfl (by simpa using hn) (by simpa using hl)
  rw [frm4]
  generalize (P.map mq).map tD = X at c e
  unfold f_mirrored_in m_mirrored_in
  walk_at "ev"
  rw [c]
  walk_at "ev"
  rw [e]
  walk_at "ev"
def foD (t : Nat) (m : Bool) (C : List Ce) : D := .tuple [.int (t : Nat), .bool m, rD C]
abbrev foB : DS := sSeq (sApp 1 (eTup (aCons (eVar 4) (aCons (eVar 2) (aCons (eVar 3) (aNil)))))) (sSet 3 (eCall f_turned_in (chkN f_turned_in.np (aCons (eVar 3) (aNil)))))
def fEv (P : List Ce) (L : List D) (m : Option D) (C : Option D) (t : Option D) : Ev := [some (rD P), some (.list L), m, C, t]
theorem fo_step (P C : List Ce) (L : List D) (m : Bool) (t : Nat) (hn : C ≠ []) (hl : C.length ≤ 1000) (hL : L.length ≤ 100) : foB (fEv P L (some (.bool m)) (some (rD C)) (some (.int (t : Nat)))) = .ok (.nx, fEv P (L ++ [foD t m C]) (some (.bool m)) (some (rD (frm 1 C))) (some (.int (t : Nat)))) := by
  have e := v_turned_in C hn hl
  unfold fEv foB
  walk_at "ev"
  rw [if_pos (by omega)]
  walk_at "ev"
  rw [e]
  walk_at "ev"
  rfl
theorem fo_loop (P C : List Ce) (L : List D) (m : Bool) (x : Option D) (hn : C ≠ []) (hl : C.length ≤ 1000) (hL : L.length ≤ 10) : ∃ x', forL (bName 4) foB ((List.range 4).map fun i => .int (i : Nat)) (fEv P L (some (.bool m)) (some (rD C)) x) = .ok (.nx, fEv P (L ++ [foD 0 m C, foD 1 m (frm 1 C), foD 2 m (frm 2 C), foD 3 m (frm 3 C)]) (some (.bool m)) (some (rD (frm 1 (frm 3 C)))) x') := by
  have h1 : ∀ i, i < 8 → frm 1 (frm i C) = frm (mul 1 i) C := fun i hi => frm_frm C (by decide) hi
  have bn : ∀ (L : List D) (c : List Ce) (x : Option D) (t : Nat), bName 4 (.int (t : Nat)) (fEv P L (some (.bool m)) (some (rD c)) x) = some (fEv P L (some (.bool m)) (some (rD c)) (some (.int (t : Nat)))) := fun _ _ _ _ => rfl
  have st : ∀ (i : Nat) (c : List Ce) (L : List D) (x : Option D) (r : List D), c ≠ [] → c.length ≤ 1000 → L.length ≤ 100 → forL (bName 4) foB (.int (i : Nat) :: r) (fEv P L (some (.bool m)) (some (rD c)) x) = forL (bName 4) foB r (fEv P (L ++ [foD i m c]) (some (.bool m)) (some (rD (frm 1 c))) (some (.int (i : Nat)))) := fun i c L x r a1 a2 a3 => by
    conv => lhs; unfold forL
    rw [bn]
    simp only [lift_some, Res.bind_ok]
    rw [fo_step P c L m i a1 a2 a3]
    rfl
  have e : ((List.range 4).map fun i => (PyData.int (i : Nat) : D)) = [.int ((0 : Nat) : Int), .int ((1 : Nat) : Int), .int ((2 : Nat) : Int), .int ((3 : Nat) : Int)] := rfl
  rw [e, st 0 C L x _ hn hl (by omega), st 1 _ _ _ _ (frm_ne hn) (by rw [frm_len]; omega) (by simp; omega), h1 1 (by decide), st 2 _ _ _ _ (frm_ne hn) (by rw [frm_len]; omega) (by simp; omega), h1 _ (by decide), st 3 _ _ _ _ (frm_ne hn) (by rw [frm_len]; omega) (by simp; omega)]
  refine ⟨some (.int ((3 : Nat) : Int)), ?_⟩
  unfold forL
  simp [mul]
def formsD (P : List Ce) : List D := [foD 0 false (frm 0 P), foD 1 false (frm 1 P), foD 2 false (frm 2 P), foD 3 false (frm 3 P), foD 0 true (frm 4 P), foD 1 true (frm 5 P), foD 2 true (frm 6 P), foD 3 true (frm 7 P)]
theorem v_forms_of (P : List Ce) (hn : P ≠ []) (hl : P.length ≤ 1000) : f_forms_of.m [rD P] = .ok (.list (formsD P), .none) := by
  have e1 := v_placed_in (rD P) P rfl hn hl
  have e2 := v_mirrored_in P hn hl
  have key : ∀ I : DI, (∀ ev, I ev = .ok ((List.range 4).map fun i => .int (i : Nat), ev)) → bodyM 5 none false (sSeq (sSetO 1 (oLst (aNil))) (sSeq (sFor (iSeq (eTup (aCons (eC (.bool false)) (aCons (eC (.bool true)) (aNil))))) (bName 2) (sSeq (sSet 3 (vIf (tTru (eVar 2)) (eCall f_mirrored_in (chkN f_mirrored_in.np (aCons (eVar 0) (aNil)))) (eCall f_placed_in (chkN f_placed_in.np (aCons (eVar 0) (aNil)))))) (sFor I (bName 4) foB))) (sRet (eOwn 1)))) [rD P] = .ok (.list (formsD P), .none) := by
    intro I hI
    have s1 : ∀ (L : List D) (c t : Option D), L.length ≤ 10 → ∃ t', (sSeq (sSet 3 (vIf (tTru (eVar 2)) (eCall f_mirrored_in (chkN f_mirrored_in.np (aCons (eVar 0) (aNil)))) (eCall f_placed_in (chkN f_placed_in.np (aCons (eVar 0) (aNil)))))) (sFor I (bName 4) foB)) (fEv P L (some (.bool false)) c t) = .ok (.nx, fEv P (L ++ [foD 0 false (frm 0 P), foD 1 false (frm 1 P), foD 2 false (frm 2 P), foD 3 false (frm 3 P)]) (some (.bool false)) (some (rD (frm 0 P))) t') := fun L c t h => by
      obtain ⟨t', q⟩ := fo_loop P (frm 0 P) L false t (frm_ne hn) (by rw [frm_len]; exact hl) h
      refine ⟨t', ?_⟩
      rw [frm_frm P (i := 1) (j := 0) (by decide) (by decide), frm_frm P (i := 2) (j := 0) (by decide) (by decide), frm_frm P (i := 3) (j := 0) (by decide) (by decide)] at q
      rw [show mul 1 0 = 1 from rfl, show mul 2 0 = 2 from rfl, show mul 3 0 = 3 from rfl, frm_frm P (i := 1) (j := 3) (by decide) (by decide), show mul 1 3 = 0 from rfl] at q
      have e1' := e1
      rw [← frm0] at e1'
      generalize foB = FB at q ⊢
      unfold fEv at q ⊢
      walk_at "ev"
      rw [e1']
      walk_at "ev"
      unfold sFor
      rw [hI]
      simp only [Res.bind_ok]
      exact q
    have s2 : ∀ (L : List D) (c t : Option D), L.length ≤ 10 → ∃ t', (sSeq (sSet 3 (vIf (tTru (eVar 2)) (eCall f_mirrored_in (chkN f_mirrored_in.np (aCons (eVar 0) (aNil)))) (eCall f_placed_in (chkN f_placed_in.np (aCons (eVar 0) (aNil)))))) (sFor I (bName 4) foB)) (fEv P L (some (.bool true)) c t) = .ok (.nx, fEv P (L ++ [foD 0 true (frm 4 P), foD 1 true (frm 5 P), foD 2 true (frm 6 P), foD 3 true (frm 7 P)]) (some (.bool true)) (some (rD (frm 4 P))) t') := fun L c t h => by
      obtain ⟨t', q⟩ := fo_loop P (frm 4 P) L true t (frm_ne hn) (by rw [frm_len]; exact hl) h
      refine ⟨t', ?_⟩
      rw [frm_frm P (i := 1) (j := 4) (by decide) (by decide), frm_frm P (i := 2) (j := 4) (by decide) (by decide), frm_frm P (i := 3) (j := 4) (by decide) (by decide)] at q
      rw [show mul 1 4 = 5 from rfl, show mul 2 4 = 6 from rfl, show mul 3 4 = 7 from rfl, frm_frm P (i := 1) (j := 7) (by decide) (by decide), show mul 1 7 = 4 from rfl] at q
      generalize foB = FB at q ⊢
      unfold fEv at q ⊢
      walk_at "ev"
      rw [e2]
      walk_at "ev"
      unfold sFor
      rw [hI]
      simp only [Res.bind_ok]
      exact q
    obtain ⟨t1, q1⟩ := s1 [] none none (by simp)
    obtain ⟨t2, q2⟩ := s2 ([] ++ [foD 0 false (frm 0 P), foD 1 false (frm 1 P), foD 2 false (frm 2 P), foD 3 false (frm 3 P)]) (some (rD (frm 0 P))) t1 (by simp)
    generalize (sSeq (sSet 3 (vIf (tTru (eVar 2)) (eCall f_mirrored_in (chkN f_mirrored_in.np (aCons (eVar 0) (aNil)))) (eCall f_placed_in (chkN f_placed_in.np (aCons (eVar 0) (aNil)))))) (sFor I (bName 4) foB)) = B at q1 q2 ⊢
    have it : iSeq (eTup (aCons (eC (.bool false)) (aCons (eC (.bool true)) (aNil)))) (fEv P [] none none none) = .ok ([.bool false, .bool true], fEv P [] none none none) := by
      unfold iSeq fEv
      walk_at "ev"
    have lp : sFor (iSeq (eTup (aCons (eC (.bool false)) (aCons (eC (.bool true)) (aNil))))) (bName 2) B (fEv P [] none none none) = .ok (.nx, fEv P (formsD P) (some (.bool true)) (some (rD (frm 4 P))) t2) := by
      rw [sFor_of it]
      unfold forL
      have b1 : bName 2 (.bool false) (fEv P [] none none none) = some (fEv P [] (some (.bool false)) none none) := rfl
      rw [b1]
      simp only [lift_some, Res.bind_ok]
      rw [q1]
      simp only [Res.bind_ok]
      unfold forL
      have b2 : bName 2 (.bool true) (fEv P ([] ++ [foD 0 false (frm 0 P), foD 1 false (frm 1 P), foD 2 false (frm 2 P), foD 3 false (frm 3 P)]) (some (.bool false)) (some (rD (frm 0 P))) t1) = some (fEv P ([] ++ [foD 0 false (frm 0 P), foD 1 false (frm 1 P), foD 2 false (frm 2 P), foD 3 false (frm 3 P)]) (some (.bool true)) (some (rD (frm 0 P))) t1) := rfl
      rw [b2]
      simp only [lift_some, Res.bind_ok]
      rw [q2]
      rfl
    unfold fEv at lp
    generalize formsD P = FD at lp ⊢
    walk_at "ev"
    rw [lp]
    walk_at "ev"
  exact key _ fun ev => iRng1_ok (n := 4) rfl (by decide)
end WL

set_option Elab.async false
set_option linter.all false
set_option maxRecDepth 100000
set_option maxHeartbeats 4000000
namespace WL
open PySem PySem.Spec PyProof.Rows L2 HotX L2H LamX TL Pc
local macro_rules | `(tactic| walk_at "ev") => `(tactic| simp [bodyM, sSeq, sIf, sSet, sSetO, sRet, sRetO, sRetS, sRetN, sApp, sPop, sDrop, sRaise, sUnp, sPar, sNext, oLst, oCall, oBin, oRep, vOf, aNil, aCons, eTup, eC, eVar, eOwn, vCall, vUn, vBin, vAn, vOrr, vNo, vIf, vChain, tOf, tTru, tNo, tAn, tOrr, ioGet, List.replicate, eCall, oCallF, chkN, z_call1, z_call2, z_call3, z_io1, z_io2, z_io3, vSl, pNone, pSome, eIdx, sizeLine_eq, wipeE, backE])
theorem e_placed : f__law_placed = f_placed_in := rfl
theorem e_turned : f__law_turned = f_turned_in := rfl
theorem e_mirrored : f__law_mirrored = f_mirrored_in := rfl
theorem e_forms : f__law_forms = f_forms_of := rfl
/-! ### the least form -/
abbrev Fo := Nat × Bool × List Ce
def foE (x : Fo) : D := foD x.1 x.2.1 x.2.2
def fX (P : List Ce) : List Fo := [(0, false, frm 0 P), (1, false, frm 1 P), (2, false, frm 2 P), (3, false, frm 3 P), (0, true, frm 4 P), (1, true, frm 5 P), (2, true, frm 6 P), (3, true, frm 7 P)]
theorem fX_D (P : List Ce) : formsD P = (fX P).map foE := rfl
theorem fX_frms (P : List Ce) : (fX P).map (fun x => x.2.2) = frms P := rfl
theorem mem_fX {P : List Ce} {x : Fo} (h : x ∈ fX P) : ∃ i, i < 8 ∧ x.2.2 = frm i P := by
  have : x.2.2 ∈ (fX P).map (fun x => x.2.2) := List.mem_map.mpr ⟨x, h, rfl⟩
  rw [fX_frms, mem_frms] at this
  obtain ⟨i, hi, e⟩ := this
  exact ⟨i, hi, e.symm⟩
def lst (P : List Ce) : List Ce := minL (frms P)
theorem frms_ne (P : List Ce) : frms P ≠ [] := fun e => by have := congrArg List.length e; simp [frms] at this
theorem lst_of {P R : List Ce} (h : Like P R) : lst R = lst P := by
  unfold lst
  have e := h.set
  cases h1 : frms P with
  | nil => exact absurd h1 (frms_ne P)
  | cons x xs =>
    cases h2 : frms R with
    | nil => exact absurd h2 (frms_ne R)
    | cons y ys =>
      show minR y ys = minR x xs
      rw [h1, h2] at e
      exact minR_set e
theorem lst_mem (P : List Ce) : lst P ∈ frms P := by
  unfold lst
  cases h1 : frms P with
  | nil => exact absurd h1 (frms_ne P)
  | cons x xs => exact (minR_spec xs x).1
theorem lst_iff {P R : List Ce} : lst P = lst R ↔ plc R ∈ frms P := by
  constructor
  · intro h
    obtain ⟨i, hi, e1⟩ := mem_frms.mp (lst_mem P)
    obtain ⟨k, hk, e2⟩ := mem_frms.mp (lst_mem R)
    rw [mem_frms]
    refine ⟨mul (inv k) i, mul_lt (inv_lt hk) hi, ?_⟩
    rw [← frm_frm P (inv_lt hk) hi, e1, h, ← e2, frm_frm R (inv_lt hk) hk, (mul_inv hk hk).2.2.1, frm0]
  · intro h
    obtain ⟨j, hj, e⟩ := mem_frms.mp h
    exact (lst_of (like_of hj e.symm)).symm
theorem v_least_in (P : List Ce) (hn : P ≠ []) (hl : P.length ≤ 1000) : f_least_in.m [rD P] = .ok (rD (lst P), .none) := by
  have e1 := v_forms_of P hn hl
  have c : oComp (iSeq (eCall f_forms_of (chkN 1 (aCons (eVar 0) (aNil))))) [1, 2, 3] (bTup 3 (bCons (bName 1) (bCons (bName 2) (bCons (bName 3) (bNil))))) (tYesD) (eVar 3) [some (rD P), none, none, none] = .ok (.list ((frms P).map rD), [some (rD P), none, none, none]) := by
    rw [oComp_map (enc := foE) (f := fun x => rD x.2.2) (xs := fX P) (by unfold iSeq; walk_at "ev"; rw [e1, fX_D]; walk_at "ev") (by rw [sizeLine_eq]; simp [fX]) (fun a ha => ⟨_, rfl, by walk_at "ev", by simp [wipeE]⟩) rfl]
    rw [← fX_frms, List.map_map]
    rfl
  have m := v_min (frms_ne P)
  unfold lst
  generalize (frms P).map rD = X at c m
  unfold f_least_in m_least_in
  walk_at "ev"
  rw [c]
  walk_at "ev"
  rw [m]
  walk_at "ev"
/-! ### the calls -/
structure Pcs (P : List Ce) : Prop where
  g : Good 1000 P
  s : Srt P
theorem Pcs.ne {P : List Ce} (p : Pcs P) : P ≠ [] := p.g.ne
theorem Pcs.len {P : List Ce} (p : Pcs P) : P.length ≤ 1000 := by have := p.g.len; omega
theorem v_placed (P : List Ce) (p : Pcs P) : f_placed.m [rD P] = .ok (rD (plc P), .none) := by
  unfold f_placed m_placed
  walk_at "ev"
  rw [v_need P p.g p.s]
  walk_at "ev"
  rw [v_placed_in (rD P) P rfl p.ne p.len]
  walk_at "ev"
theorem v_turned (P : List Ce) (p : Pcs P) : f_turned.m [rD P] = .ok (rD (frm 1 P), .none) := by
  unfold f_turned m_turned
  walk_at "ev"
  rw [v_need P p.g p.s]
  walk_at "ev"
  rw [v_turned_in P p.ne p.len]
  walk_at "ev"
theorem v_mirrored (P : List Ce) (p : Pcs P) : f_mirrored.m [rD P] = .ok (rD (frm 4 P), .none) := by
  unfold f_mirrored m_mirrored
  walk_at "ev"
  rw [v_need P p.g p.s]
  walk_at "ev"
  rw [v_mirrored_in P p.ne p.len]
  walk_at "ev"
theorem v_least (P : List Ce) (p : Pcs P) : f_least_form.m [rD P] = .ok (rD (lst P), .none) := by
  unfold f_least_form m_least_form
  walk_at "ev"
  rw [v_need P p.g p.s]
  walk_at "ev"
  rw [v_least_in P p.ne p.len]
  walk_at "ev"
theorem v_alike (P R : List Ce) (p : Pcs P) (r : Pcs R) : f_are_alike.m [rD P, rD R] = .ok (.bool (decide (lst P = lst R)), .none) := by
  unfold f_are_alike m_are_alike
  walk_at "ev"
  rw [v_need P p.g p.s]
  walk_at "ev"
  rw [v_need R r.g r.s]
  walk_at "ev"
  rw [v_least_in P p.ne p.len]
  walk_at "ev"
  rw [v_least_in R r.ne r.len]
  walk_at "ev"
  rw [v_eq]
  walk_at "ev"
/-! ### symmetries -/
def prD (q : Nat × Bool) : D := .tuple [.int q.1, .bool q.2]
theorem pr_ok (L : List (Nat × Bool)) : PyData.plainAll (L.map prD) = true ∧ PyData.depthAll (L.map prD) ≤ 1 := by
  induction L with
  | nil => exact ⟨rfl, by simp [PyData.depthAll]⟩
  | cons p r ih =>
    refine ⟨by simp [prD, ih.1], ?_⟩
    simp only [List.map_cons, PyData.depthAll, prD, PyData.depth]
    have := ih.2
    omega
theorem okD_pr (L : List (Nat × Bool)) : okD (.list (L.map prD)) = true := by
  obtain ⟨h1, h2⟩ := pr_ok L
  unfold okD
  rw [Bool.and_eq_true]
  exact ⟨h1, decide_eq_true (by show PyData.depthAll (L.map prD) + 1 ≤ 60; omega)⟩
theorem sorted_pr (L : List (Nat × Bool)) : gSorted [.list (L.map prD)] = some (.list (TL.sortD (L.map prD))) := by
  have h : sortOk (L.map prD) = true := by
    unfold sortOk
    rw [Bool.and_eq_true, Bool.and_eq_true, Bool.or_eq_true]
    refine ⟨⟨okD_pr L, ?_⟩, .inl ?_⟩
    · rw [List.all_eq_true]
      intro a ha
      rw [List.all_eq_true]
      intro b hb
      obtain ⟨x, _, rfl⟩ := List.mem_map.mp ha
      obtain ⟨y, _, rfl⟩ := List.mem_map.mp hb
      simp [prD, PySem.W.alike, PySem.W.alikeAll]
    · rw [List.all_eq_true]
      intro a ha
      obtain ⟨x, _, rfl⟩ := List.mem_map.mp ha
      rfl
  show (if sortOk (L.map prD) then some (PyData.list (TL.sortD (L.map prD))) else none) = _
  rw [if_pos h]
def syL (P : List Ce) : List (Nat × Bool) := ((fX P).filter fun x => decide (x.2.2 = plc P)).map fun x => (x.1, x.2.1)
def syD (P : List Ce) : List D := TL.sortD ((syL P).map prD)
theorem sy_len (P : List Ce) : (syD P).length = sym P := by
  unfold syD TL.sortD
  rw [List.length_mergeSort, List.length_map]
  unfold syL
  rw [List.length_map]
  unfold sym
  rw [sym8]
  unfold fX
  simp only [List.filter_cons, List.filter_nil]
  cases decide (frm 0 P = plc P) <;> cases decide (frm 1 P = plc P) <;> cases decide (frm 2 P = plc P) <;> cases decide (frm 3 P = plc P) <;> cases decide (frm 4 P = plc P) <;> cases decide (frm 5 P = plc P) <;> cases decide (frm 6 P = plc P) <;> cases decide (frm 7 P = plc P) <;> rfl
theorem sy_mem {P : List Ce} {d : D} (h : d ∈ syD P) : ∃ q, d = prD q := by
  unfold syD TL.sortD at h
  rw [(List.mergeSort_perm _ _).mem_iff] at h
  obtain ⟨q, _, rfl⟩ := List.mem_map.mp h
  exact ⟨q, rfl⟩
/-- [(turns, is_mirrored) for .. in forms if cells == own] -/
theorem sy_comp (a b c i j : Nat) (ev : Ev) (P : List Ce) (it : DI) (hit : it ev = .ok (formsD P, ev)) (h : (∀ t m C, ∃ ev1, bTup 3 (bCons (bName a) (bCons (bName b) (bCons (bName c) (bNil)))) (foD t m C) (wipeE ev [a, b, c]) = some ev1 ∧ eVar i ev1 = .ok (.val (rD C), ev1) ∧ eVar j ev1 = .ok (.val (rD (plc P)), ev1) ∧ eTup (aCons (eVar a) (aCons (eVar b) (aNil))) ev1 = .ok (.val (prD (t, m)), ev1) ∧ wipeE ev1 [a, b, c] = wipeE ev [a, b, c])) (hb : backE ev (wipeE ev [a, b, c]) [a, b, c] = ev) :
    oComp it [a, b, c] (bTup 3 (bCons (bName a) (bCons (bName b) (bCons (bName c) (bNil))))) (tOf (vBin gEq (eVar i) (eVar j))) (eTup (aCons (eVar a) (aCons (eVar b) (aNil)))) ev = .ok (.list ((syL P).map prD), ev) := by
  rw [oComp_filter (enc := foE) (f := fun x => prD (x.1, x.2.1)) (p := fun x => decide (x.2.2 = plc P)) (xs := fX P) (by rw [hit, fX_D]) (by rw [sizeLine_eq]; simp [fX]) (fun x _ => by
    obtain ⟨ev1, h1, h2, h3, h4, h5⟩ := h x.1 x.2.1 x.2.2
    refine ⟨ev1, ev1, h1, ?_, h5, fun _ => ⟨ev1, h4, h5⟩⟩
    unfold tOf vBin
    rw [h2]
    simp only [Res.bind_ok]
    rw [h3]
    simp only [Res.bind_ok, z_get_val, lift_some]
    rw [v_eq]
    simp) hb]
  unfold syL
  rw [List.map_map]
  rfl
theorem v_symmetries (P : List Ce) (p : Pcs P) : f_symmetries.m [rD P] = .ok (.tuple (syD P), .none) := by
  have e1 := v_forms_of P p.ne p.len
  have c := sy_comp 2 3 4 4 1 [some (rD P), some (rD (plc P)), none, none, none] P (iSeq (eCall f_forms_of (chkN 1 (aCons (eVar 0) (aNil))))) (by unfold iSeq; walk_at "ev"; rw [e1]; walk_at "ev") (fun t m C => ⟨[some (rD P), some (rD (plc P)), some (.int (t : Nat)), some (.bool m), some (rD C)], rfl, rfl, rfl, by walk_at "ev"; rfl, by simp [wipeE]⟩) rfl
  have s := sorted_pr (syL P)
  have e0 : TL.sortD ((syL P).map prD) = syD P := rfl
  rw [e0] at s
  generalize (syL P).map prD = X at c s
  unfold f_symmetries m_symmetries
  walk_at "ev"
  rw [v_need P p.g p.s]
  walk_at "ev"
  rw [v_placed_in (rD P) P rfl p.ne p.len]
  walk_at "ev"
  rw [c]
  walk_at "ev"
  rw [s]
  walk_at "ev"
end WL

set_option Elab.async false
set_option linter.all false
set_option maxRecDepth 100000
set_option maxHeartbeats 4000000
namespace WL
open PySem PySem.Spec PyProof.Rows L2 HotX L2H LamX TL Pc
local macro_rules | `(tactic| walk_at "ev") => `(tactic| simp [bodyM, sSeq, sIf, sSet, sSetO, sRet, sRetO, sRetS, sRetN, sApp, sPop, sDrop, sRaise, sUnp, sPar, sNext, oLst, oCall, oBin, oRep, vOf, aNil, aCons, eTup, eC, eVar, eOwn, vCall, vUn, vBin, vAn, vOrr, vNo, vIf, vChain, tOf, tTru, tNo, tAn, tOrr, ioGet, List.replicate, eCall, oCallF, chkN, z_call1, z_call2, z_call3, z_io1, z_io2, z_io3, vSl, pNone, pSome, eIdx, sizeLine_eq, wipeE, backE])
theorem good_row (n : Nat) (P : List Ce) (h : P.length ≤ 1000) : good (n + 2) (rD P) := by
  refine ⟨by rw [List.length_map]; omega, fun x hx => ?_⟩
  obtain ⟨c, _, rfl⟩ := List.mem_map.mp hx
  refine ⟨by simp, fun y hy => ?_⟩
  simp at hy
  rcases hy with rfl | rfl <;> (cases n <;> exact True.intro)
theorem good_sy (n : Nat) (P : List Ce) : good (n + 2) (.tuple (syD P)) := by
  refine ⟨?_, fun x hx => ?_⟩
  · rw [sy_len]
    have : sym P ∈ [1, 2, 4, 8] := sym_in P
    simp at this
    omega
  · obtain ⟨q, rfl⟩ := sy_mem hx
    refine ⟨by simp, fun y hy => ?_⟩
    simp at hy
    rcases hy with rfl | rfl <;> (cases n <;> exact True.intro)
theorem lst_len (P : List Ce) : (lst P).length = P.length := by
  obtain ⟨i, _, e⟩ := mem_frms.mp (lst_mem P)
  rw [← e, frm_len]
theorem nin_sym (P : List Ce) : gNotIn (.int (sym P)) (.tuple [.int 1, .int 2, .int 4, .int 8]) = some (.bool false) := by
  have h : sym P ∈ [1, 2, 4, 8] := sym_in P
  simp only [List.mem_cons, List.not_mem_nil, or_false] at h
  rcases h with h | h | h | h <;> rw [h] <;> rfl
/-- the drawn other -/
def oth (C : List Ce) (v : Ce) : List Ce := srt (C.map (sh v))
theorem oth_ok {P : List Ce} (g : Good 100 P) {i : Nat} (hi : i < 8) (v : Ce) (h1 : -150 ≤ v.1 ∧ v.1 < 150) (h2 : -150 ≤ v.2 ∧ v.2 < 150) : Pcs (oth (frm i P) v) ∧ Like P (oth (frm i P) v) := by
  obtain ⟨a, b⟩ := g.frm hi
  refine ⟨⟨Good.perm (srt_perm _).symm (a.sh v fun c hc => ?_), srt_srt _⟩, like_of hi ?_⟩
  · have := a.bd c hc
    have := b c hc
    omega
  · rw [show plc (oth (frm i P) v) = plc ((frm i P).map (sh v)) from plc_perm (srt_perm _), plc_sh, ← frm0, frm_frm P (by decide) hi, (mul_inv hi hi).2.2.2.2]
theorem v_right (cup : D) (P : List Ce) (hc : Cup cup) (g : Good 100 P) (hs : Srt P) : ∃ cup', f__law_right.m [cup, rD P] = .ok (.bool true, cup') ∧ Cup cup' := by
  have p : Pcs P := ⟨g.mono (by omega), hs⟩
  -- the draws
  obtain ⟨x, cup1, hx, e1, hc1⟩ := v_some cup (formsD P) hc (by simp [formsD]) (by simp [formsD])
  rw [fX_D] at hx
  obtain ⟨⟨t, m, C⟩, hx2, rfl⟩ := List.mem_map.mp hx
  obtain ⟨i, hi, hC⟩ := mem_fX hx2
  simp only at hC
  subst hC
  obtain ⟨r, cup2, e2, r0, r1, hc2⟩ := v_roll cup1 300 hc1 (by decide) (by decide)
  obtain ⟨u, cup3, e3, u0, u1, hc3⟩ := v_roll cup2 300 hc2 (by decide) (by decide)
  obtain ⟨po, lo⟩ := oth_ok g hi (r - 150, u - 150) ⟨by simp only; omega, by simp only; omega⟩ ⟨by simp only; omega, by simp only; omega⟩
  refine ⟨cup3, ?_, hc3⟩
  -- the parts
  have fo := v_forms_of P p.ne p.len
  have pl := v_placed_in (rD P) P rfl p.ne p.len
  rw [← e_forms] at fo
  rw [← e_placed] at pl
  have c1 := sy_comp 6 7 8 8 3 [some cup, some (rD P), some (.list (formsD P)), some (rD (plc P)), none, none, none, none, none, none, none, none, none, none] P (iSeq (eVar 2)) (by unfold iSeq; walk_at "ev") (fun t m C => ⟨[some cup, some (rD P), some (.list (formsD P)), some (rD (plc P)), none, none, some (.int (t : Nat)), some (.bool m), some (rD C), none, none, none, none, none], rfl, rfl, rfl, by walk_at "ev"; rfl, by simp [wipeE]⟩) rfl
  have s1 := sorted_pr (syL P)
  have s0 : TL.sortD ((syL P).map prD) = syD P := rfl
  rw [s0] at s1
  generalize (syL P).map prD = X1 at c1 s1
  -- told
  generalize hT : PyData.list [rD (plc P), rD (frm 1 P), rD (frm 4 P), rD (lst P), .tuple (syD P)] = T
  have gT : good 7 T := by
    rw [← hT]
    refine ⟨by simp, fun y hy => ?_⟩
    simp only [List.mem_cons, List.not_mem_nil, or_false] at hy
    rcases hy with rfl | rfl | rfl | rfl | rfl
    · exact good_row 4 _ (by rw [plc_len]; exact p.len)
    · exact good_row 4 _ (by rw [frm_len]; exact p.len)
    · exact good_row 4 _ (by rw [frm_len]; exact p.len)
    · exact good_row 4 _ (by rw [lst_len]; exact p.len)
    · exact good_sy 4 P
  have lT := v_like 7 T gT
  have c2 : oComp (iSeq (eVar 2)) [6, 7, 8] (bTup 3 (bCons (bName 6) (bCons (bName 7) (bCons (bName 8) (bNil))))) (tYesD) (eVar 8) [some cup, some (rD P), some (.list (formsD P)), some (rD (plc P)), some (.tuple (syD P)), some T, none, none, none, none, none, none, none, none] = .ok (.list ((frms P).map rD), [some cup, some (rD P), some (.list (formsD P)), some (rD (plc P)), some (.tuple (syD P)), some T, none, none, none, none, none, none, none, none]) := by
    rw [oComp_map (enc := foE) (f := fun x => rD x.2.2) (xs := fX P) (by unfold iSeq; walk_at "ev"; rw [fX_D]) (by rw [sizeLine_eq]; simp [fX]) (fun a ha => ⟨_, rfl, by walk_at "ev", by simp [wipeE]⟩) rfl]
    rw [← fX_frms, List.map_map]
    rfl
  have m2 := v_min (frms_ne P)
  have m0 : minL (frms P) = lst P := rfl
  rw [m0] at m2
  generalize (frms P).map rD = X2 at c2 m2
  -- other
  have c3 : oComp (iSeq (eVar 8)) [12, 13] (bTup 2 (bCons (bName 12) (bCons (bName 13) (bNil)))) (tYesD) (eTup (aCons (vBin gAdd (eVar 12) (eVar 9)) (aCons (vBin gAdd (eVar 13) (eVar 10)) (aNil)))) [some cup3, some (rD P), some (.list (formsD P)), some (rD (plc P)), some (.tuple (syD P)), some T, some (.int (t : Nat)), some (.bool m), some (rD (frm i P)), some (.int (r - 150)), some (.int (u - 150)), none, none, none] = .ok (.list (((frm i P).map (sh (r - 150, u - 150))).map tD), [some cup3, some (rD P), some (.list (formsD P)), some (rD (plc P)), some (.tuple (syD P)), some T, some (.int (t : Nat)), some (.bool m), some (rD (frm i P)), some (.int (r - 150)), some (.int (u - 150)), none, none, none]) := by
    rw [oComp_map (enc := tD) (f := fun c => tD (sh (r - 150, u - 150) c)) (xs := frm i P) (by unfold iSeq rD; walk_at "ev") (by rw [sizeLine_eq, frm_len]; have := p.len; omega) (fun a ha => ⟨_, rfl, by walk_at "ev"; rfl, by simp [wipeE]⟩) rfl, List.map_map]
    rfl
  have s3 := sorted_ce ((frm i P).map (sh (r - 150, u - 150)))
  have o3 : PyData.tuple ((srt ((frm i P).map (sh (r - 150, u - 150)))).map tD) = rD (oth (frm i P) (r - 150, u - 150)) := rfl
  generalize (srt ((frm i P).map (sh (r - 150, u - 150)))).map tD = X4 at s3 o3
  generalize ((frm i P).map (sh (r - 150, u - 150))).map tD = X3 at c3 s3
  generalize oth (frm i P) (r - 150, u - 150) = R at po lo o3
  have a1 := v_alike P R p po
  have a2 := v_alike R P po p
  have lr := lst_of lo
  rw [lr] at a1 a2
  simp only [decide_true] at a1 a2
  have a3 := v_least R po
  rw [lr] at a3
  have a4 := v_symmetries R po
  have a5 := sy_len R
  have a6 := sy_len P
  rw [lo.sym] at a5
  generalize hU : PyData.list [.bool true, .bool true, rD (lst P), .int (sym P)] = U
  have gU : good 7 U := by
    rw [← hU]
    refine ⟨by simp, fun y hy => ?_⟩
    simp only [List.mem_cons, List.not_mem_nil, or_false] at hy
    rcases hy with rfl | rfl | rfl | rfl
    · exact True.intro
    · exact True.intro
    · exact good_row 4 _ (by rw [lst_len]; exact p.len)
    · exact True.intro
  have lU := v_like 7 U gU
  have b1 : atI (formsD P) 1 = some (foD 1 false (frm 1 P)) := rfl
  have b4 : atI (formsD P) 4 = some (foD 0 true (frm 4 P)) := rfl
  have b1' : gIx (foD 1 false (frm 1 P)) (.int 2) = some (rD (frm 1 P)) := rfl
  have b4' : gIx (foD 0 true (frm 4 P)) (.int 2) = some (rD (frm 4 P)) := rfl
  have k1 := v_placed P p
  have k2 := v_turned P p
  have k3 := v_mirrored P p
  have k4 := v_least P p
  have k5 := v_symmetries P p
  have ub : foE (t, m, frm i P) = .tuple [.int (t : Nat), .bool m, rD (frm i P)] := rfl
  rw [ub] at e1
  have n1 := nin_sym P
  unfold f__law_right m__law_right
  walk_at "ev"
  rw [fo]
  walk_at "ev"
  rw [pl]
  walk_at "ev"
  rw [c1]
  walk_at "ev"
  rw [s1]
  walk_at "ev"
  rw [k1]
  walk_at "ev"
  rw [k2]
  walk_at "ev"
  rw [k3]
  walk_at "ev"
  rw [k4]
  walk_at "ev"
  rw [k5]
  walk_at "ev"
  rw [hT]
  rw [b1]
  walk_at "ev"
  rw [b1']
  walk_at "ev"
  rw [b4]
  walk_at "ev"
  rw [b4']
  walk_at "ev"
  rw [c2]
  walk_at "ev"
  rw [m2]
  walk_at "ev"
  rw [hT, lT]
  walk_at "ev"
  rw [a6, n1]
  walk_at "ev"
  rw [e1]
  walk_at "ev"
  rw [e2]
  walk_at "ev"
  rw [e3]
  walk_at "ev"
  rw [c3]
  walk_at "ev"
  rw [s3]
  walk_at "ev"
  rw [o3, a1]
  walk_at "ev"
  rw [a2]
  walk_at "ev"
  rw [a3]
  walk_at "ev"
  rw [a4]
  walk_at "ev"
  rw [k4]
  walk_at "ev"
  rw [a5, a6, hU, lU]
  walk_at "ev"
end WL

set_option Elab.async false
set_option linter.all false
set_option maxRecDepth 100000
set_option maxHeartbeats 4000000
namespace WL
open PySem PySem.Spec PyProof.Rows L2 HotX L2H LamX TL Pc
abbrev BL := List Bool
def chg (l : BL) : List (Bool × Bool) := l.zip (l.tail ++ l.take 1)
def chN (l : BL) : Nat := ((chg l).filter fun p => p.1 != p.2).length
def loB (l : BL) (k : Nat) : Bool := l.getD k false && (!l.getD (k - 1) false && !l.getD ((k + 1) % 8) false)
theorem okF_is (a b c d e f g h : Bool) : ((decide (chN [a, b, c, d, e, f, g, h] = 0) || decide (chN [a, b, c, d, e, f, g, h] = 2)) && (([1, 3, 5, 7].filter (loB [a, b, c, d, e, f, g, h])).isEmpty)) = okF [a, b, c, d, e, f, g, h] := by
  cases a <;> cases b <;> cases c <;> cases d <;> cases e <;> cases f <;> cases g <;> cases h <;> rfl
end WL

set_option Elab.async false
set_option linter.all false
set_option maxRecDepth 100000
set_option maxHeartbeats 4000000
namespace WL
open PySem PySem.Spec PyProof.Rows L2 HotX L2H LamX TL Pc
local macro_rules | `(tactic| walk_at "ev") => `(tactic| simp [bodyM, sSeq, sIf, sSet, sSetO, sRet, sRetO, sRetS, sRetN, sApp, sPop, sDrop, sRaise, sUnp, sPar, sNext, oLst, oCall, oBin, oRep, vOf, aNil, aCons, eTup, eC, eVar, eOwn, vCall, vUn, vBin, vAn, vOrr, vNo, vIf, vChain, tOf, tTru, tNo, tAn, tOrr, ioGet, List.replicate, eCall, oCallF, chkN, z_call1, z_call2, z_call3, z_io1, z_io2, z_io3, vSl, pNone, pSome, eIdx, sizeLine_eq, wipeE, backE])
/-! ### a cell that may be added -/
abbrev stT : DS := sSeq (sSet 6 (vCall gLen (aCons (vOf (oComp (iZip (aCons (eVar 5) (aCons (vBin gAdd (vSl (eVar 5) (pSome (eC (.int 1))) (pNone)) (vSl (eVar 5) (pNone) (pSome (eC (.int 1))))) (aNil)))) [8, 10] (bTup 2 (bCons (bName 8) (bCons (bName 10) (bNil)))) (tOf (vBin gNe (eVar 8) (eVar 10))) (eC (.int 1)))) (aNil)))) (sSeq (sSet 7 (vOf (oComp (iSeq (eTup (aCons (eC (.int 1)) (aCons (eC (.int 3)) (aCons (eC (.int 5)) (aCons (eC (.int 7)) (aNil))))))) [9] (bName 9) (tAn (tTru (vBin gIx (eVar 5) (eVar 9))) (tAn (tNo (tTru (vBin gIx (eVar 5) (vBin gSub (eVar 9) (eC (.int 1)))))) (tNo (tTru (vBin gIx (eVar 5) (vBin gMod (vCall gInt (aCons (vBin gAdd (eVar 9) (eC (.int 1))) (aNil))) (eC (.int 8)))))))) (eVar 9)))) (sRet (vAn (vBin gIn (eVar 6) (eTup (aCons (eC (.int 0)) (aCons (eC (.int 2)) (aNil))))) (vBin gEq (eVar 7) (vOf (oLst (aNil)))))))
theorem ne_bb (a b : Bool) : gNe (.bool a) (.bool b) = some (.bool (a != b)) := by cases a <;> cases b <;> rfl
theorem in02 (j : Int) : gIn (.int j) (.tuple [.int 0, .int 2]) = some (.bool (decide (j = 0) || decide (j = 2))) := by
  have h1 : okD (.int j) = true := rfl
  have h2 : okD (.tuple [.int 0, .int 2]) = true := rfl
  unfold gIn inD
  simp only [h1, h2, and_self, if_true, Option.map_some, List.any_cons, List.any_nil, Bool.or_false, PyData.eqv]
  congr 2
  rw [Bool.eq_iff_iff]
  simp only [Bool.or_eq_true, beq_iff_eq, decide_eq_true_eq]
  omega
theorem eq_nilN (l : List Nat) (h : l.length ≤ 100) : gEq (.list (l.map fun k => .int (k : Nat))) (.list []) = some (.bool l.isEmpty) := by
  have hk : ∀ l : List Nat, PyData.plainAll (l.map fun k => .int (k : Nat)) = true ∧ PyData.depthAll (l.map fun k => PyData.int (k : Nat)) = 0 := fun l => by
    induction l with
    | nil => exact ⟨rfl, rfl⟩
    | cons a l ih => simp [PyData.depthAll, PyData.depth, ih]
  obtain ⟨p, d⟩ := hk l
  have ho : okD (.list (l.map fun k => .int (k : Nat))) = true := by
    unfold okD
    rw [Bool.and_eq_true]
    exact ⟨p, decide_eq_true (by show PyData.depthAll (l.map fun k => PyData.int (k : Nat)) + 1 ≤ 60; omega)⟩
  unfold gEq
  rw [ho, okD_nil]
  cases l <;> simp [PyData.eqv, PyData.eqvAll]
theorem ix_bl (l : BL) (k : Nat) (h : k < l.length) : atI (l.map PyData.bool) (k : Int) = some (.bool (l.getD k false)) := by
  rw [z_atn (by simpa using h)]
  simp [List.getElem?_eq_getElem h, List.getD_eq_getElem?_getD]
theorem zip_bl : ∀ (l m : BL), zip2 (l.map PyData.bool) (m.map PyData.bool) = (l.zip m).map fun p => .tuple [.bool p.1, .bool p.2]
  | [], m => by simp [zip2]
  | a :: l, [] => by simp [zip2]
  | a :: l, b :: m => by
    have := zip_bl l m
    unfold zip2 at this ⊢
    simp only [List.map_cons, List.zipWith_cons_cons, List.zip_cons_cons, this]
theorem st_tail (d0 d1 d2 d3 d4 : Option D) (l : BL) (hl : l.length = 8) : ∃ ev, stT [d0, d1, d2, d3, d4, some (.list (l.map PyData.bool)), none, none, none, none, none] = .ok (.rt (.bool ((decide (chN l = 0) || decide (chN l = 2)) && (([1, 3, 5, 7].filter (loB l)).isEmpty))), ev) := by
  have zz : zipD [.list (l.map PyData.bool), .list (cutL (l.map PyData.bool) (some 1) none ++ cutL (l.map PyData.bool) none (some 1))] = some ((chg l).map fun p => .tuple [.bool p.1, .bool p.2]) := by
    have q1 := z_cut_kn (xs := l.map PyData.bool) (k := 1) (by simp [hl])
    have q2 := z_cut_nk (xs := l.map PyData.bool) (k := 1) (by simp [hl])
    have q1 : cutL (l.map PyData.bool) (some 1) none = (l.map PyData.bool).drop 1 := q1
    have q2 : cutL (l.map PyData.bool) none (some 1) = (l.map PyData.bool).take 1 := q2
    rw [q1, q2, ← List.map_drop, ← List.map_take, ← List.map_append]
    show some (zip2 _ _) = _
    rw [zip_bl]
    unfold chg
    rw [List.drop_one]
  have c1 : oComp (iZip (aCons (eVar 5) (aCons (vBin gAdd (vSl (eVar 5) (pSome (eC (.int 1))) (pNone)) (vSl (eVar 5) (pNone) (pSome (eC (.int 1))))) (aNil)))) [8, 10] (bTup 2 (bCons (bName 8) (bCons (bName 10) (bNil)))) (tOf (vBin gNe (eVar 8) (eVar 10))) (eC (.int 1)) [d0, d1, d2, d3, d4, some (.list (l.map PyData.bool)), none, none, none, none, none] = .ok (.list (((chg l).filter fun p => p.1 != p.2).map fun _ => .int 1), [d0, d1, d2, d3, d4, some (.list (l.map PyData.bool)), none, none, none, none, none]) := by
    rw [oComp_filter (enc := fun p : Bool × Bool => .tuple [.bool p.1, .bool p.2]) (f := fun _ => .int 1) (p := fun p => p.1 != p.2) (xs := chg l) (by
      unfold TL.iZip
      have hcut : (cutL (l.map PyData.bool) (some 1) none).length + (cutL (l.map PyData.bool) none (some 1)).length ≤ 16777216 := by
        unfold cutL
        simp [hl]
        omega
      generalize l.map PyData.bool = LB at zz hcut ⊢
      walk_at "ev"
      simp only [hcut, if_true]
      walk_at "ev"
      rw [zz]
      walk_at "ev") (by rw [sizeLine_eq]; simp [chg]; omega) (fun p _ => by
      refine ⟨[d0, d1, d2, d3, d4, some (.list (l.map PyData.bool)), none, none, some (.bool p.1), none, some (.bool p.2)], [d0, d1, d2, d3, d4, some (.list (l.map PyData.bool)), none, none, some (.bool p.1), none, some (.bool p.2)], rfl, ?_, rfl, fun _ => ⟨_, rfl, rfl⟩⟩
      generalize l.map PyData.bool = LB
      walk_at "ev"
      rw [ne_bb]
      walk_at "ev") rfl]
  have c2 : ∀ d6, oComp (iSeq (eTup (aCons (eC (.int 1)) (aCons (eC (.int 3)) (aCons (eC (.int 5)) (aCons (eC (.int 7)) (aNil))))))) [9] (bName 9) (tAn (tTru (vBin gIx (eVar 5) (eVar 9))) (tAn (tNo (tTru (vBin gIx (eVar 5) (vBin TL.gSub (eVar 9) (eC (.int 1)))))) (tNo (tTru (vBin gIx (eVar 5) (vBin gMod (vCall gInt (aCons (vBin gAdd (eVar 9) (eC (.int 1))) (aNil))) (eC (.int 8)))))))) (eVar 9) [d0, d1, d2, d3, d4, some (.list (l.map PyData.bool)), d6, none, none, none, none] = .ok (.list (([1, 3, 5, 7].filter (loB l)).map fun k : Nat => .int (k : Nat)), [d0, d1, d2, d3, d4, some (.list (l.map PyData.bool)), d6, none, none, none, none]) := fun d6 => by
    have hx : ∀ k : Nat, k < 8 → gIx (.list (l.map PyData.bool)) (.int (k : Nat)) = some (.bool (l.getD k false)) := fun k hk => ix_bl l k (by omega)
    generalize PyData.list (l.map PyData.bool) = LB at hx ⊢
    rw [oComp_filter (enc := fun k : Nat => .int (k : Nat)) (f := fun k => .int (k : Nat)) (p := loB l) (xs := [1, 3, 5, 7]) (by unfold iSeq; walk_at "ev") (by rw [sizeLine_eq]; simp) (fun k hk => by
      refine ⟨[d0, d1, d2, d3, d4, some LB, d6, none, none, some (.int (k : Nat)), none], [d0, d1, d2, d3, d4, some LB, d6, none, none, some (.int (k : Nat)), none], rfl, ?_, rfl, fun _ => ⟨_, rfl, rfl⟩⟩
      have hk8 : k < 8 ∧ 1 ≤ k := by simp at hk; omega
      have e1 : (k : Int) - 1 = ((k - 1 : Nat) : Int) := by omega
      have e2 : gMod (.int ((k : Int) + 1)) (.int 8) = some (.int (((k + 1) % 8 : Nat) : Int)) := by
        simp at hk
        rcases hk with rfl | rfl | rfl | rfl <;> rfl
      have h1 := hx k hk8.1
      have h2 := hx (k - 1) (by omega)
      have h3 := hx ((k + 1) % 8) (by omega)
      rw [← e1] at h2
      unfold loB
      walk_at "ev"
      rw [h1]
      walk_at "ev"
      rw [h2]
      walk_at "ev"
      rw [e2]
      walk_at "ev"
      have h3' := h3
      simp at h3'
      rw [h3']
      walk_at "ev"
      cases l[k]?.getD false <;> cases l[k - 1]?.getD false <;> cases l[(k + 1) % 8]?.getD false <;> rfl) rfl]
  have e3 := eq_nilN ([1, 3, 5, 7].filter (loB l)) (by have := List.length_filter_le (loB l) [1, 3, 5, 7]; simp at this ⊢; omega)
  have hn : chN l = (((chg l).filter fun p => p.1 != p.2).map fun _ => PyData.int 1).length := by unfold chN; rw [List.length_map]
  have e4 := in02 (chN l)
  generalize ([1, 3, 5, 7].filter (loB l)).map (fun k : Nat => PyData.int (k : Nat)) = X2 at c2 e3
  generalize ([1, 3, 5, 7].filter (loB l)).isEmpty = q at e3 ⊢
  have hg := hn.symm
  generalize ((chg l).filter fun p => p.1 != p.2).map (fun _ => PyData.int 1) = X1 at c1 hg
  refine ⟨[d0, d1, d2, d3, d4, some (.list (l.map PyData.bool)), some (.int (chN l)), some (.list X2), none, none, none], ?_⟩
  generalize PyData.list (l.map PyData.bool) = LB at c1 c2 ⊢
  have c2 := c2 (some (.int (chN l)))
  generalize chN l = n at hg e4 c2 ⊢
  unfold stT
  walk_at "ev"
  rw [c1]
  walk_at "ev"
  rw [hg]
  rw [c2]
  walk_at "ev"
  rw [e4]
  walk_at "ev"
  have n2 : decide ((n : Int) = 2) = decide (n = 2) := by apply dec_iff; omega
  rw [n2]
  clear c1 c2 e4 hg zz
  cases decide (n = 0) <;> cases decide (n = 2) <;> simp only [Bool.or_false, Bool.or_true, Bool.or_self, cond_true, cond_false, e3, lift_some, Res.bind_ok, z_toVal, Bool.false_and, Bool.true_and]
end WL

set_option Elab.async false
set_option linter.all false
set_option maxRecDepth 100000
set_option maxHeartbeats 4000000
namespace WL
open PySem PySem.Spec PyProof.Rows L2 HotX L2H LamX TL Pc
local macro_rules | `(tactic| walk_at "ev") => `(tactic| try simp [bodyM, sSeq, sIf, sSet, sSetO, sRet, sRetO, sRetS, sRetN, sApp, sPop, sDrop, sRaise, sUnp, sPar, sNext, oLst, oCall, oBin, oRep, vOf, aNil, aCons, eTup, eC, eVar, eOwn, vCall, vUn, vBin, vAn, vOrr, vNo, vIf, vChain, tOf, tTru, tNo, tAn, tOrr, ioGet, List.replicate, eCall, oCallF, chkN, z_call1, z_call2, z_call3, z_io1, z_io2, z_io3, vSl, pNone, pSome, eIdx, sizeLine_eq, wipeE, backE])
theorem eqv_ce (a b : Ce) : PyData.eqv (tD a) (tD b) = decide (a = b) := by
  rw [Bool.eq_iff_iff]
  simp [tD, PyData.eqv, PyData.eqvAll, Prod.ext_iff]
theorem in_l (c : Ce) (L : List Ce) : inD (tD c) (.list (L.map tD)) = some (decide (c ∈ L)) := by
  show (if okD (tD c) ∧ okD (.list (L.map tD)) then some ((L.map tD).any fun y => PyData.eqv y (tD c)) else none) = _
  rw [if_pos ⟨rfl, okD_tD L⟩]
  congr 1
  rw [Bool.eq_iff_iff, List.any_eq_true, decide_eq_true_eq]
  constructor
  · rintro ⟨x, hx, e⟩
    obtain ⟨d, hd, rfl⟩ := List.mem_map.mp hx
    rw [eqv_ce] at e
    rw [← of_decide_eq_true e]
    exact hd
  · intro h
    exact ⟨tD c, List.mem_map.mpr ⟨c, h, rfl⟩, by rw [eqv_ce]; simp⟩
theorem gin_l (c : Ce) (L : List Ce) : gIn (tD c) (.list (L.map tD)) = some (.bool (decide (c ∈ L))) := by unfold gIn; rw [in_l]; rfl
theorem gnin_l (c : Ce) (L : List Ce) : gNotIn (tD c) (.list (L.map tD)) = some (.bool (!decide (c ∈ L))) := by unfold gNotIn; rw [in_l]; rfl
theorem aNil_ok (ev : Ev) : aNil ev = .ok ([], ev) := rfl
theorem aCons_ok {m : DE} {r : DA} {ev : Ev} {d : D} {vs : List RV} (h : m ev = .ok (.val d, ev)) (k : r ev = .ok (vs, ev)) : aCons m r ev = .ok (.val d :: vs, ev) := by
  unfold aCons
  rw [h]
  simp only [Res.bind_ok]
  rw [k]
  rfl
theorem seq_nx {s1 s2 : DS} {ev ev1 : Ev} (h : s1 ev = .ok (.nx, ev1)) : sSeq s1 s2 ev = s2 ev1 := by
  unfold sSeq
  rw [h]
  rfl
theorem set_ok {i : Nat} {m : DE} {ev ev1 : Ev} {d : D} (h : m ev = .ok (.val d, ev1)) : sSet i m ev = .ok (.nx, ev1.set i (some d)) := by
  unfold sSet
  rw [h]
  rfl
theorem body2 {n : Nat} {M : DS} {a b d : D} {ev : Ev} (h : M ([some a, some b] ++ List.replicate (n - 2) none) = .ok (.rt d, ev)) : bodyM n none false M [a, b] = .ok (d, .none) := by
  have e : (List.map some [a, b] ++ List.replicate (n - [a, b].length) none : Ev) = [some a, some b] ++ List.replicate (n - 2) none := rfl
  unfold bodyM
  rw [e, h]
  rfl
theorem v_stays (L : List Ce) (c : Ce) : f__law_stays.m [.list (L.map tD), tD c] = .ok (.bool (okF ((around c).map fun d => decide (d ∈ L))), .none) := by
  have c1 : oComp (iSeq (eVar 4)) [8] (bName 8) (tYesD) (vBin gIn (eVar 8) (eVar 0)) [some (.list (L.map tD)), some (tD c), some (.int c.1), some (.int c.2), some (.list ((around c).map tD)), none, none, none, none, none, none] = .ok (.list ((around c).map fun d => .bool (decide (d ∈ L))), [some (.list (L.map tD)), some (tD c), some (.int c.1), some (.int c.2), some (.list ((around c).map tD)), none, none, none, none, none, none]) := by
    rw [oComp_map (enc := tD) (f := fun d => .bool (decide (d ∈ L))) (xs := around c) (by unfold iSeq; walk_at "ev") (by rw [sizeLine_eq]; simp [around]) (fun a ha => ⟨_, rfl, by walk_at "ev"; rw [gin_l]; rfl, by simp [wipeE]⟩) rfl]
  obtain ⟨ev, e⟩ := st_tail (some (.list (L.map tD))) (some (tD c)) (some (.int c.1)) (some (.int c.2)) (some (.list ((around c).map tD))) ((around c).map fun d => decide (d ∈ L)) rfl
  have ok := okF_is (decide ((c.1 + 1, c.2) ∈ L)) (decide ((c.1 + 1, c.2 + 1) ∈ L)) (decide ((c.1, c.2 + 1) ∈ L)) (decide ((c.1 - 1, c.2 + 1) ∈ L)) (decide ((c.1 - 1, c.2) ∈ L)) (decide ((c.1 - 1, c.2 - 1) ∈ L)) (decide ((c.1, c.2 - 1) ∈ L)) (decide ((c.1 + 1, c.2 - 1) ∈ L))
  have ok : ((decide (chN ((around c).map fun d => decide (d ∈ L)) = 0) || decide (chN ((around c).map fun d => decide (d ∈ L)) = 2)) && (([1, 3, 5, 7].filter (loB ((around c).map fun d => decide (d ∈ L)))).isEmpty)) = okF ((around c).map fun d => decide (d ∈ L)) := ok
  rw [ok] at e
  have e' : stT [some (.list (L.map tD)), some (tD c), some (.int c.1), some (.int c.2), some (.list ((around c).map tD)), some (.list ((around c).map fun d => .bool (decide (d ∈ L)))), none, none, none, none, none] = .ok (.rt (.bool (okF ((around c).map fun d => decide (d ∈ L)))), ev) := by
    rw [List.map_map] at e
    exact e
  have ar : [tD (c.1 + 1, c.2), tD (c.1 + 1, c.2 + 1), tD (c.1, c.2 + 1), tD (c.1 - 1, c.2 + 1), tD (c.1 - 1, c.2), tD (c.1 - 1, c.2 - 1), tD (c.1, c.2 - 1), tD (c.1 + 1, c.2 - 1)] = (around c).map tD := rfl
  generalize hL : PyData.list (L.map tD) = LL at c1 e' ⊢
  have t0 : eTup (aCons (vBin gAdd (eVar 2) (eC (.int 1))) (aCons (eVar 3) (aNil))) [some LL, some (tD c), some (.int c.1), some (.int c.2), none, none, none, none, none, none, none] = .ok (.val (tD (c.1 + 1, c.2)), [some LL, some (tD c), some (.int c.1), some (.int c.2), none, none, none, none, none, none, none]) := by walk_at "ev"; rfl
  have t1 : eTup (aCons (vBin gAdd (eVar 2) (eC (.int 1))) (aCons (vBin gAdd (eVar 3) (eC (.int 1))) (aNil))) [some LL, some (tD c), some (.int c.1), some (.int c.2), none, none, none, none, none, none, none] = .ok (.val (tD (c.1 + 1, c.2 + 1)), [some LL, some (tD c), some (.int c.1), some (.int c.2), none, none, none, none, none, none, none]) := by walk_at "ev"; rfl
  have t2 : eTup (aCons (eVar 2) (aCons (vBin gAdd (eVar 3) (eC (.int 1))) (aNil))) [some LL, some (tD c), some (.int c.1), some (.int c.2), none, none, none, none, none, none, none] = .ok (.val (tD (c.1, c.2 + 1)), [some LL, some (tD c), some (.int c.1), some (.int c.2), none, none, none, none, none, none, none]) := by walk_at "ev"; rfl
  have t3 : eTup (aCons (vBin TL.gSub (eVar 2) (eC (.int 1))) (aCons (vBin gAdd (eVar 3) (eC (.int 1))) (aNil))) [some LL, some (tD c), some (.int c.1), some (.int c.2), none, none, none, none, none, none, none] = .ok (.val (tD (c.1 - 1, c.2 + 1)), [some LL, some (tD c), some (.int c.1), some (.int c.2), none, none, none, none, none, none, none]) := by walk_at "ev"; rfl
  have t4 : eTup (aCons (vBin TL.gSub (eVar 2) (eC (.int 1))) (aCons (eVar 3) (aNil))) [some LL, some (tD c), some (.int c.1), some (.int c.2), none, none, none, none, none, none, none] = .ok (.val (tD (c.1 - 1, c.2)), [some LL, some (tD c), some (.int c.1), some (.int c.2), none, none, none, none, none, none, none]) := by walk_at "ev"; rfl
  have t5 : eTup (aCons (vBin TL.gSub (eVar 2) (eC (.int 1))) (aCons (vBin TL.gSub (eVar 3) (eC (.int 1))) (aNil))) [some LL, some (tD c), some (.int c.1), some (.int c.2), none, none, none, none, none, none, none] = .ok (.val (tD (c.1 - 1, c.2 - 1)), [some LL, some (tD c), some (.int c.1), some (.int c.2), none, none, none, none, none, none, none]) := by walk_at "ev"; rfl
  have t6 : eTup (aCons (eVar 2) (aCons (vBin TL.gSub (eVar 3) (eC (.int 1))) (aNil))) [some LL, some (tD c), some (.int c.1), some (.int c.2), none, none, none, none, none, none, none] = .ok (.val (tD (c.1, c.2 - 1)), [some LL, some (tD c), some (.int c.1), some (.int c.2), none, none, none, none, none, none, none]) := by walk_at "ev"; rfl
  have t7 : eTup (aCons (vBin gAdd (eVar 2) (eC (.int 1))) (aCons (vBin TL.gSub (eVar 3) (eC (.int 1))) (aNil))) [some LL, some (tD c), some (.int c.1), some (.int c.2), none, none, none, none, none, none, none] = .ok (.val (tD (c.1 + 1, c.2 - 1)), [some LL, some (tD c), some (.int c.1), some (.int c.2), none, none, none, none, none, none, none]) := by walk_at "ev"; rfl
  have la := aCons_ok t0 (aCons_ok t1 (aCons_ok t2 (aCons_ok t3 (aCons_ok t4 (aCons_ok t5 (aCons_ok t6 (aCons_ok t7 (aNil_ok _))))))))
  have s4 : sSet 4 (vOf (oLst (aCons (eTup (aCons (vBin gAdd (eVar 2) (eC (.int 1))) (aCons (eVar 3) (aNil)))) (aCons (eTup (aCons (vBin gAdd (eVar 2) (eC (.int 1))) (aCons (vBin gAdd (eVar 3) (eC (.int 1))) (aNil)))) (aCons (eTup (aCons (eVar 2) (aCons (vBin gAdd (eVar 3) (eC (.int 1))) (aNil)))) (aCons (eTup (aCons (vBin TL.gSub (eVar 2) (eC (.int 1))) (aCons (vBin gAdd (eVar 3) (eC (.int 1))) (aNil)))) (aCons (eTup (aCons (vBin TL.gSub (eVar 2) (eC (.int 1))) (aCons (eVar 3) (aNil)))) (aCons (eTup (aCons (vBin TL.gSub (eVar 2) (eC (.int 1))) (aCons (vBin TL.gSub (eVar 3) (eC (.int 1))) (aNil)))) (aCons (eTup (aCons (eVar 2) (aCons (vBin TL.gSub (eVar 3) (eC (.int 1))) (aNil)))) (aCons (eTup (aCons (vBin gAdd (eVar 2) (eC (.int 1))) (aCons (vBin TL.gSub (eVar 3) (eC (.int 1))) (aNil)))) (aNil))))))))))) [some LL, some (tD c), some (.int c.1), some (.int c.2), none, none, none, none, none, none, none] = .ok (.nx, [some LL, some (tD c), some (.int c.1), some (.int c.2), some (.list ((around c).map tD)), none, none, none, none, none, none]) := by
    rw [← ar]
    refine set_ok (ev1 := [some LL, some (tD c), some (.int c.1), some (.int c.2), none, none, none, none, none, none, none]) ?_
    unfold vOf oLst
    rw [la]
    rfl
  have s5 : sSet 5 (vOf (oComp (iSeq (eVar 4)) [8] (bName 8) (tYesD) (vBin gIn (eVar 8) (eVar 0)))) [some LL, some (tD c), some (.int c.1), some (.int c.2), some (.list ((around c).map tD)), none, none, none, none, none, none] = .ok (.nx, [some LL, some (tD c), some (.int c.1), some (.int c.2), some (.list ((around c).map tD)), some (.list ((around c).map fun d => .bool (decide (d ∈ L)))), none, none, none, none, none]) := by
    refine set_ok (ev1 := [some LL, some (tD c), some (.int c.1), some (.int c.2), some (.list ((around c).map tD)), none, none, none, none, none, none]) ?_
    unfold vOf
    rw [c1]
    rfl
  have s2 : sUnp (bTup 2 (bCons (bName 2) (bCons (bName 3) (bNil)))) (eVar 1) [some LL, some (tD c), none, none, none, none, none, none, none, none, none] = .ok (.nx, [some LL, some (tD c), some (.int c.1), some (.int c.2), none, none, none, none, none, none, none]) := rfl
  have fin := (seq_nx (s2 := _) s2).trans ((seq_nx (s2 := _) s4).trans ((seq_nx (s2 := stT) s5).trans e'))
  exact body2 (n := 11) fin
end WL

set_option Elab.async false
set_option linter.all false
set_option maxRecDepth 100000
set_option maxHeartbeats 4000000
namespace WL
open PySem PySem.Spec PyProof.Rows L2 HotX L2H LamX TL Pc
local macro_rules | `(tactic| walk_at "ev") => `(tactic| try simp [bodyM, sSeq, sIf, sSet, sSetO, sRet, sRetO, sRetS, sRetN, sApp, sPop, sDrop, sRaise, sUnp, sPar, sNext, oLst, oCall, oBin, oRep, vOf, aNil, aCons, eTup, eC, eVar, eOwn, vCall, vUn, vBin, vAn, vOrr, vNo, vIf, vChain, tOf, tTru, tNo, tAn, tOrr, ioGet, List.replicate, eCall, oCallF, chkN, z_call1, z_call2, z_call3, z_io1, z_io2, z_io3, vSl, pNone, pSome, eIdx, sizeLine_eq, wipeE, backE])
theorem aCons_g {m : DE} {r : DA} {ev : Ev} {d : RV} {vs : List RV} (h : m ev = .ok (d, ev)) (k : r ev = .ok (vs, ev)) : aCons m r ev = .ok (d :: vs, ev) := by
  unfold aCons
  rw [h]
  simp only [Res.bind_ok]
  rw [k]
  rfl
/-- calls that lend an own slot -/
theorem call_lend2 {f : FnS} {ev : Ev} {a b d o : D} {j k : Nat} (h : f.io = some 0) (hr : f.ro = false) (hj : (ev[j]?).join = some a) (hk : (ev[k]?).join = some b) (ne : j ≠ k) (hm : f.m [a, b] = .ok (d, o)) (f1 : flatC d = true) (f2 : flatD d = true) (f3 : flatC o = true) : callD f [.slot j, .slot k] ev = .ok (d, ev.set j (some o)) := by
  have hg : gets [.slot j, .slot k] ev = some [a, b] := by
    simp only [z_gets_cons, z_gets_nil, z_get_slot, hj, hk, Option.bind_some]
  have hs : ioSlot (some 0) [.slot j, .slot k] = some (some j) := by
    simp [ioSlot, isSlot, ne]
  unfold callD
  rw [hg, h, hs]
  simp only [lift_some, Res.bind_ok, hm]
  rw [if_pos (.inr ⟨f1, fun _ => f2, f3⟩)]
  rfl
theorem call_lend1 {f : FnS} {ev : Ev} {a b d o : D} {k : Nat} (h : f.io = none) (hr : f.ro = false) (hk : (ev[k]?).join = some a) (hm : f.m [a, b] = .ok (d, o)) (f1 : flatC d = true) (f2 : flatD d = true) (f3 : flatC o = true) : callD f [.slot k, .val b] ev = .ok (d, ev) := by
  have hg : gets [.slot k, .val b] ev = some [a, b] := by
    simp only [z_gets_cons, z_gets_nil, z_get_slot, z_get_val, hk, Option.bind_some]
  have hs : ioSlot none [.slot k, .val b] = some none := rfl
  unfold callD
  rw [hg, h, hs]
  simp only [lift_some, Res.bind_ok, hm]
  rw [if_pos (.inr ⟨f1, fun _ => f2, f3⟩)]
  rfl
theorem flat_ce (c : Ce) : flatC (tD c) = true ∧ flatD (tD c) = true := ⟨rfl, rfl⟩
theorem flat_cup {d : D} (h : Cup d) : flatC d = true := by obtain ⟨a, b, rfl, _⟩ := h; rfl
abbrev grB : DS := sSeq (sUnp (bTup 2 (bCons (bName 4) (bCons (bName 5) (bNil)))) (eCall f__law_some (chkN f__law_some.np (aCons (eOwn 0) (aCons (eOwn 2) (aNil)))))) (sSeq (sSet 6 (eCall f__law_some (chkN f__law_some.np (aCons (eOwn 0) (aCons (vOf (oLst (aCons (eTup (aCons (vBin gAdd (eVar 4) (eC (.int 1))) (aCons (eVar 5) (aNil)))) (aCons (eTup (aCons (vBin TL.gSub (eVar 4) (eC (.int 1))) (aCons (eVar 5) (aNil)))) (aCons (eTup (aCons (eVar 4) (aCons (vBin gAdd (eVar 5) (eC (.int 1))) (aNil)))) (aCons (eTup (aCons (eVar 4) (aCons (vBin TL.gSub (eVar 5) (eC (.int 1))) (aNil)))) (aNil))))))) (aNil)))))) (sIf (tAn (tOf (vBin gNotIn (eVar 6) (eOwn 2))) (tTru (eCall f__law_stays (chkN f__law_stays.np (aCons (eOwn 2) (aCons (eVar 6) (aNil))))))) (sApp 2 (eVar 6)) (sNext)))
def gEv (cup : D) (many : Int) (L : List Ce) (a b c d : Option D) : Ev := [some cup, some (.int many), some (.list (L.map tD)), a, b, c, d]
def four4 (b : Ce) : List Ce := [(b.1 + 1, b.2), (b.1 - 1, b.2), (b.1, b.2 + 1), (b.1, b.2 - 1)]
theorem gr_step (cup : D) (many : Int) (L : List Ce) (x a b c : Option D) (k : Nat) (hk : k < 8) (hc : Cup cup) (g : Good (10 + k) L) (hl : L.length ≤ k + 1) : ∃ cup' L' a' b' c', grB (gEv cup many L x a b c) = .ok (.nx, gEv cup' many L' x a' b' c') ∧ Cup cup' ∧ Good (10 + (k + 1 : Nat)) L' ∧ L'.length ≤ k + 2 := by
  obtain ⟨y, cup1, hy, e1, hc1⟩ := v_some cup (L.map tD) hc (by rw [List.length_map]; exact List.length_pos_iff.mpr g.ne) (by rw [List.length_map]; omega)
  obtain ⟨p, hp, rfl⟩ := List.mem_map.mp hy
  obtain ⟨z, cup2, hz, e2, hc2⟩ := v_some cup1 ((four4 p).map tD) hc1 (by simp [four4]) (by simp [four4])
  obtain ⟨q, hq, rfl⟩ := List.mem_map.mp hz
  have hqn : q ∈ nb p := by
    simp only [four4, nb, List.mem_cons, List.not_mem_nil, or_false] at hq ⊢
    rcases hq with rfl | rfl | rfl | rfl <;> simp
  have s1 : sUnp (bTup 2 (bCons (bName 4) (bCons (bName 5) (bNil)))) (eCall f__law_some (chkN f__law_some.np (aCons (eOwn 0) (aCons (eOwn 2) (aNil))))) (gEv cup many L x a b c) = .ok (.nx, gEv cup1 many L x (some (.int p.1)) (some (.int p.2)) c) := by
    have ca := call_lend2 (f := f__law_some) (ev := gEv cup many L x a b c) (j := 0) (k := 2) rfl rfl rfl rfl (by decide) e1 (flat_ce p).1 (flat_ce p).2 (flat_cup hc1)
    have ar : chkN f__law_some.np (aCons (eOwn 0) (aCons (eOwn 2) (aNil))) (gEv cup many L x a b c) = .ok ([.slot 0, .slot 2], gEv cup many L x a b c) := rfl
    unfold sUnp eCall
    rw [ar]
    simp only [Res.bind_ok]
    rw [ca]
    rfl
  have l4 : vOf (oLst (aCons (eTup (aCons (vBin gAdd (eVar 4) (eC (.int 1))) (aCons (eVar 5) (aNil)))) (aCons (eTup (aCons (vBin TL.gSub (eVar 4) (eC (.int 1))) (aCons (eVar 5) (aNil)))) (aCons (eTup (aCons (eVar 4) (aCons (vBin gAdd (eVar 5) (eC (.int 1))) (aNil)))) (aCons (eTup (aCons (eVar 4) (aCons (vBin TL.gSub (eVar 5) (eC (.int 1))) (aNil)))) (aNil)))))) (gEv cup1 many L x (some (.int p.1)) (some (.int p.2)) c) = .ok (.val (.list ((four4 p).map tD)), gEv cup1 many L x (some (.int p.1)) (some (.int p.2)) c) := by
    have t0 : eTup (aCons (vBin gAdd (eVar 4) (eC (.int 1))) (aCons (eVar 5) (aNil))) (gEv cup1 many L x (some (.int p.1)) (some (.int p.2)) c) = .ok (.val (tD (p.1 + 1, p.2)), gEv cup1 many L x (some (.int p.1)) (some (.int p.2)) c) := by unfold gEv; walk_at "ev"; rfl
    have t1 : eTup (aCons (vBin TL.gSub (eVar 4) (eC (.int 1))) (aCons (eVar 5) (aNil))) (gEv cup1 many L x (some (.int p.1)) (some (.int p.2)) c) = .ok (.val (tD (p.1 - 1, p.2)), gEv cup1 many L x (some (.int p.1)) (some (.int p.2)) c) := by unfold gEv; walk_at "ev"; rfl
    have t2 : eTup (aCons (eVar 4) (aCons (vBin gAdd (eVar 5) (eC (.int 1))) (aNil))) (gEv cup1 many L x (some (.int p.1)) (some (.int p.2)) c) = .ok (.val (tD (p.1, p.2 + 1)), gEv cup1 many L x (some (.int p.1)) (some (.int p.2)) c) := by unfold gEv; walk_at "ev"; rfl
    have t3 : eTup (aCons (eVar 4) (aCons (vBin TL.gSub (eVar 5) (eC (.int 1))) (aNil))) (gEv cup1 many L x (some (.int p.1)) (some (.int p.2)) c) = .ok (.val (tD (p.1, p.2 - 1)), gEv cup1 many L x (some (.int p.1)) (some (.int p.2)) c) := by unfold gEv; walk_at "ev"; rfl
    have la := aCons_ok t0 (aCons_ok t1 (aCons_ok t2 (aCons_ok t3 (aNil_ok _))))
    unfold vOf oLst
    rw [la]
    rfl
  have s2 : sSet 6 (eCall f__law_some (chkN f__law_some.np (aCons (eOwn 0) (aCons (vOf (oLst (aCons (eTup (aCons (vBin gAdd (eVar 4) (eC (.int 1))) (aCons (eVar 5) (aNil)))) (aCons (eTup (aCons (vBin TL.gSub (eVar 4) (eC (.int 1))) (aCons (eVar 5) (aNil)))) (aCons (eTup (aCons (eVar 4) (aCons (vBin gAdd (eVar 5) (eC (.int 1))) (aNil)))) (aCons (eTup (aCons (eVar 4) (aCons (vBin TL.gSub (eVar 5) (eC (.int 1))) (aNil)))) (aNil))))))) (aNil))))) (gEv cup1 many L x (some (.int p.1)) (some (.int p.2)) c) = .ok (.nx, gEv cup2 many L x (some (.int p.1)) (some (.int p.2)) (some (tD q))) := by
    generalize vOf (oLst (aCons (eTup (aCons (vBin gAdd (eVar 4) (eC (.int 1))) (aCons (eVar 5) (aNil)))) (aCons (eTup (aCons (vBin TL.gSub (eVar 4) (eC (.int 1))) (aCons (eVar 5) (aNil)))) (aCons (eTup (aCons (eVar 4) (aCons (vBin gAdd (eVar 5) (eC (.int 1))) (aNil)))) (aCons (eTup (aCons (eVar 4) (aCons (vBin TL.gSub (eVar 5) (eC (.int 1))) (aNil)))) (aNil)))))) = M at l4 ⊢
    have ar : chkN f__law_some.np (aCons (eOwn 0) (aCons M (aNil))) (gEv cup1 many L x (some (.int p.1)) (some (.int p.2)) c) = .ok ([.slot 0, .val (.list ((four4 p).map tD))], gEv cup1 many L x (some (.int p.1)) (some (.int p.2)) c) := by
      have o0 : eOwn 0 (gEv cup1 many L x (some (.int p.1)) (some (.int p.2)) c) = .ok (.slot 0, gEv cup1 many L x (some (.int p.1)) (some (.int p.2)) c) := rfl
      have m0 := aCons_ok l4 (aNil_ok _)
      have : aCons (eOwn 0) (aCons M aNil) (gEv cup1 many L x (some (.int p.1)) (some (.int p.2)) c) = .ok ([.slot 0, .val (.list ((four4 p).map tD))], gEv cup1 many L x (some (.int p.1)) (some (.int p.2)) c) := aCons_g o0 m0
      unfold chkN
      rw [this]
      rfl
    refine set_ok (ev1 := gEv cup2 many L x (some (.int p.1)) (some (.int p.2)) c) ?_
    unfold eCall
    rw [ar]
    simp only [Res.bind_ok]
    rw [z_io2 rfl]
    have : ((gEv cup1 many L x (some (.int p.1)) (some (.int p.2)) c)[0]?).join = some cup1 := rfl
    rw [this]
    simp only [lift_some, Res.bind_ok]
    rw [e2]
    rfl
  have st := v_stays L q
  have nin := gnin_l q L
  have ca := call_lend1 (f := f__law_stays) (ev := gEv cup2 many L x (some (.int p.1)) (some (.int p.2)) (some (tD q))) (k := 2) rfl rfl rfl st rfl rfl rfl
  have tt : tAn (tOf (vBin gNotIn (eVar 6) (eOwn 2))) (tTru (eCall f__law_stays (chkN f__law_stays.np (aCons (eOwn 2) (aCons (eVar 6) (aNil)))))) (gEv cup2 many L x (some (.int p.1)) (some (.int p.2)) (some (tD q))) = .ok (!decide (q ∈ L) && okF ((around q).map fun d => decide (d ∈ L)), gEv cup2 many L x (some (.int p.1)) (some (.int p.2)) (some (tD q))) := by
    have ar : chkN f__law_stays.np (aCons (eOwn 2) (aCons (eVar 6) (aNil))) (gEv cup2 many L x (some (.int p.1)) (some (.int p.2)) (some (tD q))) = .ok ([.slot 2, .val (tD q)], gEv cup2 many L x (some (.int p.1)) (some (.int p.2)) (some (tD q))) := rfl
    have q1 : tOf (vBin gNotIn (eVar 6) (eOwn 2)) (gEv cup2 many L x (some (.int p.1)) (some (.int p.2)) (some (tD q))) = .ok (!decide (q ∈ L), gEv cup2 many L x (some (.int p.1)) (some (.int p.2)) (some (tD q))) := by
      have o6 : eVar 6 (gEv cup2 many L x (some (.int p.1)) (some (.int p.2)) (some (tD q))) = .ok (.val (tD q), gEv cup2 many L x (some (.int p.1)) (some (.int p.2)) (some (tD q))) := rfl
      have o2 : eOwn 2 (gEv cup2 many L x (some (.int p.1)) (some (.int p.2)) (some (tD q))) = .ok (.slot 2, gEv cup2 many L x (some (.int p.1)) (some (.int p.2)) (some (tD q))) := rfl
      unfold tOf vBin
      rw [o6]
      simp only [Res.bind_ok]
      rw [o2]
      simp only [Res.bind_ok, z_get_val, z_get_slot, lift_some]
      have : ((gEv cup2 many L x (some (.int p.1)) (some (.int p.2)) (some (tD q)))[2]?).join = some (.list (L.map tD)) := rfl
      rw [this]
      simp only [lift_some, Res.bind_ok]
      rw [nin]
      rfl
    have q2 : tTru (eCall f__law_stays (chkN f__law_stays.np (aCons (eOwn 2) (aCons (eVar 6) (aNil))))) (gEv cup2 many L x (some (.int p.1)) (some (.int p.2)) (some (tD q))) = .ok (okF ((around q).map fun d => decide (d ∈ L)), gEv cup2 many L x (some (.int p.1)) (some (.int p.2)) (some (tD q))) := by
      unfold tTru eCall
      rw [ar]
      simp only [Res.bind_ok]
      rw [ca]
      rfl
    unfold tAn
    rw [q1]
    simp only [Res.bind_ok]
    cases decide (q ∈ L)
    · simp only [Bool.not_false, cond_true, Bool.true_and]
      exact q2
    · rfl
  have step : grB (gEv cup many L x a b c) = sIf (tAn (tOf (vBin gNotIn (eVar 6) (eOwn 2))) (tTru (eCall f__law_stays (chkN f__law_stays.np (aCons (eOwn 2) (aCons (eVar 6) (aNil))))))) (sApp 2 (eVar 6)) (sNext) (gEv cup2 many L x (some (.int p.1)) (some (.int p.2)) (some (tD q))) := (seq_nx s1).trans (seq_nx s2)
  rw [step]
  unfold sIf
  rw [tt]
  simp only [Res.bind_ok]
  by_cases h : q ∈ L
  · simp only [h, decide_true, Bool.not_true, Bool.false_and, cond_false]
    exact ⟨cup2, L, _, _, _, rfl, hc2, g.mono (by omega), by omega⟩
  · cases ho : okF ((around q).map fun d => decide (d ∈ L)) with
    | false =>
      simp only [h, decide_false, Bool.not_false, Bool.true_and, cond_false]
      exact ⟨cup2, L, _, _, _, rfl, hc2, g.mono (by omega), by omega⟩
    | true =>
      simp only [h, decide_false, Bool.not_false, Bool.true_and, cond_true]
      have gg := g.grow (by omega) hp hqn h ho
      refine ⟨cup2, L ++ [q], some (.int p.1), some (.int p.2), some (tD q), ?_, hc2, gg.mono (by omega), by simp; omega⟩
      have hL : (L.map tD).length < sizeLine := by rw [sizeLine_eq, List.length_map]; omega
      have e3 : (L ++ [q]).map tD = L.map tD ++ [tD q] := by simp
      unfold gEv
      rw [e3]
      generalize L.map tD = LL at hL
      generalize tD q = dq
      show (if LL.length < sizeLine then Res.ok (Fl.nx, ([some cup2, some (.int many), some (.list LL), x, some (.int p.1), some (.int p.2), some dq] : Ev).set 2 (some (.list (LL ++ [dq])))) else .stuck) = _
      rw [if_pos hL]
      rfl
theorem v_grown (cup : D) (n : Nat) (hc : Cup cup) (hn : n < 9) : ∃ P cup', f__law_grown.m [cup, .int (n + 1 : Nat)] = .ok (rD P, cup') ∧ Cup cup' ∧ Good 100 P ∧ Srt P := by
  obtain ⟨y, cup1, hy, e1, hc1⟩ := v_some cup [.int 0, .int 0, .int 5, .int (-3), .int (-7)] hc (by simp) (by simp)
  obtain ⟨z, cup2, hz, e2, hc2⟩ := v_some cup1 [.int 0, .int 0, .int 4, .int (-9)] hc1 (by simp) (by simp)
  obtain ⟨i, rfl, hi⟩ : ∃ i : Int, y = .int i ∧ -10 ≤ i ∧ i ≤ 10 := by
    simp only [List.mem_cons, List.not_mem_nil, or_false] at hy
    rcases hy with rfl | rfl | rfl | rfl | rfl <;> exact ⟨_, rfl, by decide, by decide⟩
  obtain ⟨j, rfl, hj⟩ : ∃ i : Int, z = .int i ∧ -10 ≤ i ∧ i ≤ 10 := by
    simp only [List.mem_cons, List.not_mem_nil, or_false] at hz
    rcases hz with rfl | rfl | rfl | rfl <;> exact ⟨_, rfl, by decide, by decide⟩
  have key : ∀ I : DI, (∀ ev, (ev[1]?).join = some (.int ((n + 1 : Nat) : Int)) → I ev = .ok ((List.range n).map fun i => .int (i : Nat), ev)) → ∃ P cup', bodyM 7 (some 0) false (sSeq (sSetO 2 (oLst (aCons (eTup (aCons (eCall f__law_some (chkN f__law_some.np (aCons (eOwn 0) (aCons (vOf (oLst (aCons (eC (.int 0)) (aCons (eC (.int 0)) (aCons (eC (.int 5)) (aCons (vUn gNeg (eC (.int 3))) (aCons (vUn gNeg (eC (.int 7))) (aNil)))))))) (aNil))))) (aCons (eCall f__law_some (chkN f__law_some.np (aCons (eOwn 0) (aCons (vOf (oLst (aCons (eC (.int 0)) (aCons (eC (.int 0)) (aCons (eC (.int 4)) (aCons (vUn gNeg (eC (.int 9))) (aNil))))))) (aNil))))) (aNil)))) (aNil)))) (sSeq (sFor I (bName 3) grB) (sRet (vCall gTuple (aCons (vOf (oCall gSorted (aCons (eOwn 2) (aNil)))) (aNil)))))) [cup, .int ((n + 1 : Nat) : Int)] = .ok (rD P, cup') ∧ Cup cup' ∧ Good 100 P ∧ Srt P := by
    intro I hI
    generalize ((n + 1 : Nat) : Int) = mm at hI ⊢
    obtain ⟨ev', lp, cup3, L, x, a, b, c, rfl, hc3, g, _⟩ := forL_ix (b := bName 3) (body := grB) (enc := fun i : Nat => .int (i : Nat)) (fun (_ : Unit) _ => ()) (fun k _ ev => ∃ cup3 L x a b c, ev = gEv cup3 mm L x a b c ∧ Cup cup3 ∧ Good (10 + (k : Nat)) L ∧ L.length ≤ k + 1) (xs := List.range n) 0 (s := ()) (ev := gEv cup2 mm [(i, j)] none none none none) (fun k a ha _ ev hI => by
      obtain ⟨cup3, L, x, a', b, c, rfl, hc3, g, hl⟩ := hI
      have hk : k < n := by have := (List.getElem?_eq_some_iff.mp ha).1; simpa using this
      obtain ⟨cup4, L', a2, b2, c2, q1, q2, q3, q4⟩ := gr_step cup3 mm L (some (.int (a : Nat))) a' b c (0 + k) (by omega) hc3 g hl
      exact ⟨gEv cup3 mm L (some (.int (a : Nat))) a' b c, _, .nx, rfl, q1, .inl rfl, cup4, L', _, _, _, _, rfl, q2, q3, by omega⟩) ⟨_, _, _, _, _, _, rfl, hc2, Good.one _ (by show -(10 + ((0 : Nat) : Int)) ≤ i ∧ i ≤ 10 + ((0 : Nat) : Int) ∧ -(10 + ((0 : Nat) : Int)) ≤ j ∧ j ≤ 10 + ((0 : Nat) : Int); omega), by simp⟩
    rw [List.length_range] at g
    refine ⟨srt L, cup3, ?_, hc3, Good.perm (srt_perm L).symm (g.mono (by omega)), srt_srt L⟩
    have so := sorted_ce L
    have hII := hI (gEv cup2 mm [(i, j)] none none none none) rfl
    have lp2 : sFor I (bName 3) grB (gEv cup2 mm [(i, j)] none none none none) = _ := (sFor_of hII).trans lp
    have e0 : rD (srt L) = .tuple ((srt L).map tD) := rfl
    rw [e0]
    generalize grB = GB at lp2 ⊢
    unfold gEv at lp2
    generalize (srt L).map tD = SL at so ⊢
    generalize L.map tD = LL at so lp2
    have e5 : [(i, j)].map tD = [.tuple [.int i, .int j]] := rfl
    rw [e5] at lp2
    walk_at "ev"
    rw [e1]
    walk_at "ev"
    rw [e2]
    walk_at "ev"
    rw [lp2]
    walk_at "ev"
    rw [so]
    walk_at "ev"
  exact key (iRng1 (aCons (vBin TL.gSub (eVar 1) (eC (.int 1))) (aNil))) fun ev h => iRng1_ok (n := n) (by
    walk_at "ev"
    rw [h]
    walk_at "ev") (by omega)
end WL

set_option Elab.async false
set_option linter.all false
set_option maxRecDepth 100000
set_option maxHeartbeats 4000000
namespace WL
open PySem PySem.Spec PyProof.Rows L2 HotX L2H LamX TL Pc
local macro_rules | `(tactic| walk_at "ev") => `(tactic| try simp [bodyM, sSeq, sIf, sSet, sSetO, sRet, sRetO, sRetS, sRetN, sApp, sPop, sDrop, sRaise, sUnp, sPar, sNext, oLst, oCall, oBin, oRep, vOf, aNil, aCons, eTup, eC, eVar, eOwn, vCall, vUn, vBin, vAn, vOrr, vNo, vIf, vChain, tOf, tTru, tNo, tAn, tOrr, ioGet, List.replicate, eCall, oCallF, chkN, z_call1, z_call2, z_call3, z_io1, z_io2, z_io3, vSl, pNone, pSome, eIdx, sizeLine_eq, wipeE, backE])
/-! ### what is no piece -/
def bad (d : D) : Prop := f_is_piece.m [d] = .ok (.bool false, .none)
theorem bad_cells {d : D} (h : f_are_cells.m [d] = .ok (.bool false, .none)) : bad d := by
  unfold bad f_is_piece m_is_piece
  walk_at "ev"
  rw [h]
  walk_at "ev"
theorem b_none : bad .none := bad_cells (by
  unfold f_are_cells m_are_cells
  have h : f_is_tuple_of.m [.none, .int 0, .int 60] = .ok (.bool false, .none) := rfl
  walk_at "ev"
  rw [h]
  walk_at "ev")
theorem b_list : bad (.list [tD (0, 0)]) := bad_cells (by
  unfold f_are_cells m_are_cells
  have h : f_is_tuple_of.m [.list [tD (0, 0)], .int 0, .int 60] = .ok (.bool false, .none) := rfl
  walk_at "ev"
  rw [h]
  walk_at "ev")
theorem b_nil : bad (rD []) := by
  have e1 := v_are_cells [] (by simp) rfl rfl
  have e2 : gEq (rD []) (.tuple []) = some (.bool true) := rfl
  unfold bad f_is_piece m_is_piece
  walk_at "ev"
  rw [e1]
  walk_at "ev"
  rw [e2]
  walk_at "ev"
theorem b_hang (h : Ce) (r : List Ce) (hn : (h :: r).Nodup) (hl : (h :: r).length ≤ 60) (h2 : (h :: r).all okc = true) (h3 : (nxt (h :: r)).all (fun p => tl p.1 p.2) = true) (hb : (bfs h (h :: r)).1.isEmpty = false) : bad (rD (h :: r)) := by
  have e1 := v_are_cells (h :: r) hl h2 h3
  have e2 : gEq (rD (h :: r)) (.tuple []) = some (.bool false) := by simpa [rD] using v_eq (h :: r) []
  have e3 := v_do_hang h r hn hl
  rw [hb] at e3
  unfold bad f_is_piece m_is_piece
  walk_at "ev"
  rw [e1]
  walk_at "ev"
  rw [e2]
  walk_at "ev"
  rw [e3]
  walk_at "ev"
theorem b_far : bad (rD [(0, 0), (1, 1)]) := b_hang (0, 0) [(1, 1)] (by decide) (by decide) (by decide) (by decide) (by decide)
theorem b_far2 : bad (rD [(0, 0), (0, 2)]) := b_hang (0, 0) [(0, 2)] (by decide) (by decide) (by decide) (by decide) (by decide)
theorem b_desc : bad (rD [(0, 1), (0, 0)]) := bad_cells (by
  have ht : f_is_tuple_of.m [rD [(0, 1), (0, 0)], .int 0, .int 60] = .ok (.bool true, .none) := by
    rw [show rD [(0, 1), (0, 0)] = .tuple ([((0, 1) : Ce), (0, 0)].map tD) from rfl, v_is_tuple _ _ _ (pl_r _)]
    rfl
  have hc : oComp (iSeq (eVar 0)) [1] (bName 1) (tYesD) (eCall f_is_cell (chkN 1 (aCons (eVar 1) (aNil)))) [some (rD [(0, 1), (0, 0)]), none] = .ok (.list ([((0, 1) : Ce), (0, 0)].map fun c => .bool (okc c)), [some (rD [(0, 1), (0, 0)]), none]) := by
    rw [oComp_map (enc := tD) (f := fun c => .bool (okc c)) (xs := [((0, 1) : Ce), (0, 0)]) (by unfold iSeq rD; walk_at "ev") (by rw [sizeLine_eq]; simp) (fun a ha => ⟨_, rfl, by walk_at "ev", by simp [wipeE]⟩) rfl]
  have ha := v_all okc [((0, 1) : Ce), (0, 0)]
  have hs := v_is_ascending [((0, 1) : Ce), (0, 0)] (by simp)
  rw [show ((nxt [((0, 1) : Ce), (0, 0)]).all fun p => tl p.1 p.2) = false from by decide] at hs
  rw [show [((0, 1) : Ce), (0, 0)].all okc = true from by decide] at ha
  generalize ([((0, 1) : Ce), (0, 0)].map fun c => PyData.bool (okc c)) = X at hc ha
  generalize rD [((0, 1) : Ce), (0, 0)] = d at ht hc hs
  unfold f_are_cells m_are_cells
  walk_at "ev"
  rw [ht]
  walk_at "ev"
  rw [hc]
  walk_at "ev"
  rw [ha]
  walk_at "ev"
  rw [hs]
  walk_at "ev")
theorem b_bool : bad (.tuple [.tuple [.bool true, .int 0]]) := bad_cells (by
  have ht : f_is_tuple_of.m [.tuple [.tuple [.bool true, .int 0]], .int 0, .int 60] = .ok (.bool true, .none) := by
    rw [v_is_tuple _ _ _ (by rfl)]
    rfl
  have hcell : f_is_cell.m [.tuple [.bool true, .int 0]] = .ok (.bool false, .none) := by
    have w1 : f_is_whole.m [.bool true, .int (-1000), .int 1000] = .ok (.bool false, .none) := rfl
    have t2 : f_is_tuple_of.m [.tuple [.bool true, .int 0], .int 2, .int 2] = .ok (.bool true, .none) := by
      rw [v_is_tuple _ _ _ (by rfl)]
      rfl
    have c2 : oComp (iSeq (eVar 0)) [1] (bName 1) (tYesD) (eCall f_is_whole (chkN 3 (aCons (eVar 1) (aCons (vUn gNeg (eC (.int 1000))) (aCons (eC (.int 1000)) (aNil)))))) [some (.tuple [.bool true, .int 0]), none] = .ok (.list ([false, true].map PyData.bool), [some (.tuple [.bool true, .int 0]), none]) := by
      have := oComp_map (it := iSeq (eVar 0)) (vs := [1]) (b := bName 1) (m := eCall f_is_whole (chkN 3 (aCons (eVar 1) (aCons (vUn gNeg (eC (.int 1000))) (aCons (eC (.int 1000)) (aNil)))))) (ev := [some (.tuple [.bool true, .int 0]), none]) (fun k : Bool × D => k.2) (fun k => .bool k.1) (xs := [(false, .bool true), (true, .int 0)]) (by unfold iSeq; walk_at "ev") (by rw [sizeLine_eq]; simp) (fun a ha => by
        simp only [List.mem_cons, List.not_mem_nil, or_false] at ha
        rcases ha with rfl | rfl
        · refine ⟨[some (.tuple [.bool true, .int 0]), some (.bool true)], rfl, ?_, by simp [wipeE]⟩
          walk_at "ev"
          rw [w1]
          walk_at "ev"
        · refine ⟨[some (.tuple [.bool true, .int 0]), some (.int 0)], rfl, ?_, by simp [wipeE]⟩
          walk_at "ev") rfl
      exact this
    have a2 : gAll [.list ([false, true].map PyData.bool)] = some (.bool false) := rfl
    generalize [false, true].map PyData.bool = X at c2 a2
    unfold f_is_cell m_is_cell
    walk_at "ev"
    rw [c2]
    walk_at "ev"
    rw [a2]
    walk_at "ev"
  have hc : oComp (iSeq (eVar 0)) [1] (bName 1) (tYesD) (eCall f_is_cell (chkN 1 (aCons (eVar 1) (aNil)))) [some (.tuple [.tuple [.bool true, .int 0]]), none] = .ok (.list ([PyData.tuple [.bool true, .int 0]].map fun _ => .bool false), [some (.tuple [.tuple [.bool true, .int 0]]), none]) := by
    rw [oComp_map (enc := id) (f := fun _ => .bool false) (xs := [PyData.tuple [.bool true, .int 0]]) (by unfold iSeq; walk_at "ev") (by rw [sizeLine_eq]; simp) (fun a ha => by
      simp only [List.mem_cons, List.not_mem_nil, or_false] at ha
      subst ha
      refine ⟨[some (.tuple [.tuple [.bool true, .int 0]]), some (.tuple [.bool true, .int 0])], rfl, ?_, by simp [wipeE]⟩
      walk_at "ev"
      rw [hcell]
      walk_at "ev") rfl]
  have ha : gAll [.list ([PyData.tuple [.bool true, .int 0]].map fun _ => .bool false)] = some (.bool false) := rfl
  generalize [PyData.tuple [.bool true, .int 0]].map (fun _ => PyData.bool false) = X at hc ha
  generalize PyData.tuple [.tuple [.bool true, .int 0]] = d at ht hc
  unfold f_are_cells m_are_cells
  walk_at "ev"
  rw [ht]
  walk_at "ev"
  rw [hc]
  walk_at "ev"
  rw [ha]
  walk_at "ev")
/-! each call raises -/
theorem need_bad {d : D} (h : bad d) : f_need_piece.m [d] = .err "InvalidPiece" := by
  have h : f_is_piece.m [d] = .ok (.bool false, .none) := h
  unfold f_need_piece m_need_piece
  walk_at "ev"
  rw [h]
  walk_at "ev"
theorem r1 {d : D} (h : bad d) : f_placed.m [d] = .err "InvalidPiece" := by
  unfold f_placed m_placed
  walk_at "ev"
  rw [need_bad h]
  walk_at "ev"
theorem r2 {d : D} (h : bad d) : f_turned.m [d] = .err "InvalidPiece" := by
  unfold f_turned m_turned
  walk_at "ev"
  rw [need_bad h]
  walk_at "ev"
theorem r3 {d : D} (h : bad d) : f_mirrored.m [d] = .err "InvalidPiece" := by
  unfold f_mirrored m_mirrored
  walk_at "ev"
  rw [need_bad h]
  walk_at "ev"
theorem r4 {d : D} (h : bad d) : f_least_form.m [d] = .err "InvalidPiece" := by
  unfold f_least_form m_least_form
  walk_at "ev"
  rw [need_bad h]
  walk_at "ev"
theorem r5 {d : D} (h : bad d) : f_symmetries.m [d] = .err "InvalidPiece" := by
  unfold f_symmetries m_symmetries
  walk_at "ev"
  rw [need_bad h]
  walk_at "ev"
theorem r6 {d : D} (x : D) (h : bad d) : f_are_alike.m [d, x] = .err "InvalidPiece" := by
  unfold f_are_alike m_are_alike
  walk_at "ev"
  rw [need_bad h]
  walk_at "ev"
theorem r7 {d : D} (P : List Ce) (p : Pcs P) (h : bad d) : f_are_alike.m [rD P, d] = .err "InvalidPiece" := by
  unfold f_are_alike m_are_alike
  walk_at "ev"
  rw [v_need P p.g p.s]
  walk_at "ev"
  rw [need_bad h]
  walk_at "ev"
end WL

set_option Elab.async false
set_option linter.all false
set_option maxRecDepth 100000
set_option maxHeartbeats 4000000
namespace WL
open PySem PySem.Spec PyProof.Rows L2 HotX L2H LamX TL Pc
local macro_rules | `(tactic| walk_at "ev") => `(tactic| try simp [bodyM, sSeq, sIf, sSet, sSetO, sRet, sRetO, sRetS, sRetN, sApp, sPop, sDrop, sRaise, sUnp, sPar, sNext, oLst, oCall, oBin, oRep, vOf, aNil, aCons, eTup, eC, eVar, eOwn, vCall, vUn, vBin, vAn, vOrr, vNo, vIf, vChain, tOf, tTru, tNo, tAn, tOrr, ioGet, List.replicate, eCall, oCallF, chkN, z_call1, z_call2, z_call3, z_io1, z_io2, z_io3, vSl, pNone, pSome, eIdx, sizeLine_eq, wipeE, backE])
/-! ### great pieces: facts -/
theorem srt_sh {P : List Ce} (v : Ce) (h : Srt P) : Srt (P.map (sh v)) := List.Pairwise.map _ (fun a b h => by rw [cle_p] at *; simp only [sh]; omega) h
theorem sym_like0 {P R : List Ce} (h : plc R = plc P) : sym R = sym P := (like_of (P := P) (R := R) (j := 0) (by decide) (by rw [h, frm0])).sym
theorem sym_srt (P : List Ce) : sym (srt P) = sym P := sym_like0 (plc_perm (srt_perm P))
theorem sym_sh (v : Ce) (P : List Ce) : sym (P.map (sh v)) = sym P := sym_like0 (plc_sh v)
structure Grt (x : List Ce × Nat) : Prop where
  g : Good 100 x.1
  s : Srt x.1
  y : sym x.1 = x.2
theorem grt_srt {P : List Ce} {n : Nat} (h : gd P = true) (y : sym P = n) (v : Ce) (hv : -20 ≤ v.1 ∧ v.1 < 20 ∧ -20 ≤ v.2 ∧ v.2 < 20) : Grt (srt (P.map (sh v)), n) where
  g := Good.perm (srt_perm _).symm ((gd_ok h).sh v fun c hc => by have := (gd_ok h).bd c hc; omega)
  s := srt_srt _
  y := by show sym (srt _) = n; rw [sym_srt, sym_sh, y]
theorem sh0 (P : List Ce) : P.map (sh (0, 0)) = P := by
  conv => rhs; rw [← List.map_id P]
  apply List.map_congr_left
  intro c _
  apply Prod.ext <;> simp [sh]
theorem grt_srt0 {P : List Ce} {n : Nat} (h : gd P = true) (y : sym P = n) : Grt (srt P, n) := by
  have := grt_srt h y (0, 0) (by decide)
  rwa [sh0] at this
theorem srt_bar : Srt bar := by unfold Srt; decide +kernel
theorem srt_hook : Srt hook := by unfold Srt; decide +kernel
theorem gd_dot : gd [(0, 0)] = true := by decide +kernel
theorem sy_dot : sym [(0, 0)] = 8 := by decide +kernel
/-! ### the loop of great pieces -/
abbrev rwB : DS := sIf (tOrr (tOf (vBin gNe (vCall gLen (aCons (eCall f_symmetries (chkN f_symmetries.np (aCons (eVar 15) (aNil)))) (aNil))) (eVar 16))) (tNo (tTru (eCall f__law_right (chkN f__law_right.np (aCons (eOwn 1) (aCons (eVar 15) (aNil)))))))) (sRet (eC (.bool false))) (sNext)
theorem rw_step (ev : Ev) (cup : D) (x : List Ce × Nat) (hc : Cup cup) (g : Grt x) (h1 : (ev[1]?).join = some cup) (h15 : (ev[15]?).join = some (rD x.1)) (h16 : (ev[16]?).join = some (.int (x.2 : Nat))) : ∃ cup', rwB ev = .ok (.nx, ev.set 1 (some cup')) ∧ Cup cup' := by
  obtain ⟨cup', e, hc'⟩ := v_right cup x.1 hc g.g g.s
  refine ⟨cup', ?_, hc'⟩
  have s := v_symmetries x.1 ⟨g.g.mono (by omega), g.s⟩
  have sl := sy_len x.1
  rw [g.y] at sl
  have a1 : aCons (eVar 15) aNil ev = .ok ([.val (rD x.1)], ev) := aCons_ok (by unfold eVar; rw [h15]; rfl) (aNil_ok ev)
  have c1 : eCall f_symmetries (chkN f_symmetries.np (aCons (eVar 15) (aNil))) ev = .ok (.val (.tuple (syD x.1)), ev) := by
    unfold eCall chkN
    rw [a1]
    simp only [Res.bind_ok]
    rw [show (if ([RV.val (rD x.1)] : List RV).length = f_symmetries.np then (Res.ok ([RV.val (rD x.1)], ev) : Res (List RV × Ev)) else .stuck) = .ok ([RV.val (rD x.1)], ev) from rfl]
    simp only [Res.bind_ok]
    rw [z_call1 rfl, s]
    rfl
  have c2 : tOf (vBin gNe (vCall gLen (aCons (eCall f_symmetries (chkN f_symmetries.np (aCons (eVar 15) (aNil)))) (aNil))) (eVar 16)) ev = .ok (false, ev) := by
    have l : vCall gLen (aCons (eCall f_symmetries (chkN f_symmetries.np (aCons (eVar 15) (aNil)))) (aNil)) ev = .ok (.val (.int (x.2 : Nat)), ev) := by
      unfold vCall
      rw [aCons_ok c1 (aNil_ok ev)]
      simp [sl]
    have e16 : eVar 16 ev = .ok (.val (.int (x.2 : Nat)), ev) := by unfold eVar; rw [h16]; rfl
    unfold tOf vBin
    rw [l]
    simp only [Res.bind_ok]
    rw [e16]
    simp
  have c3 : tTru (eCall f__law_right (chkN f__law_right.np (aCons (eOwn 1) (aCons (eVar 15) (aNil))))) ev = .ok (true, ev.set 1 (some cup')) := by
    have a2 : aCons (eOwn 1) (aCons (eVar 15) aNil) ev = .ok ([.slot 1, .val (rD x.1)], ev) := aCons_g (by unfold eOwn; rw [h1]; rfl) a1
    unfold tTru eCall chkN
    rw [a2]
    simp only [Res.bind_ok]
    rw [show (if ([RV.slot 1, RV.val (rD x.1)] : List RV).length = f__law_right.np then (Res.ok ([RV.slot 1, RV.val (rD x.1)], ev) : Res (List RV × Ev)) else .stuck) = .ok ([RV.slot 1, RV.val (rD x.1)], ev) from rfl]
    simp only [Res.bind_ok]
    rw [z_io2 rfl, h1]
    simp only [lift_some, Res.bind_ok]
    rw [e]
    rfl
  unfold rwB sIf tOrr tNo
  rw [c2]
  simp only [Res.bind_ok, cond_false]
  rw [c3]
  rfl
end WL

set_option Elab.async false
set_option linter.all false
set_option maxRecDepth 100000
set_option maxHeartbeats 4000000
namespace WL
open PySem PySem.Spec PyProof.Rows L2 HotX L2H LamX TL Pc
local macro_rules | `(tactic| walk_at "ev") => `(tactic| try simp [bodyM, sSeq, sIf, sSet, sSetO, sRet, sRetO, sRetS, sRetN, sApp, sPop, sDrop, sRaise, sUnp, sPar, sNext, oLst, oCall, oBin, oRep, vOf, aNil, aCons, eTup, eC, eVar, eOwn, vCall, vUn, vBin, vAn, vOrr, vNo, vIf, vChain, tOf, tTru, tNo, tAn, tOrr, ioGet, List.replicate, eCall, oCallF, chkN, z_call1, z_call2, z_call3, z_io1, z_io2, z_io3, vSl, pNone, pSome, eIdx, sizeLine_eq, wipeE, backE])
/-! ### the first loop -/
def Lb (sc cup : D) (x2 x6 x20 x21 : Option D) : Ev := [some sc, some cup, x2, none, none, none, x6, none, none, none, none, none, none, none, none, none, none, none, none, none, x20, x21, none, none, none, none, none, none]
theorem in_rows (Q : List Ce) (L : List (List Ce)) : gIn (rD Q) (.list (L.map rD)) = some (.bool (decide (Q ∈ L))) := by
  have h : inD (rD Q) (.list (L.map rD)) = some (decide (Q ∈ L)) := by
    show (if okD (rD Q) ∧ okD (.list (L.map rD)) then some ((L.map rD).any fun y => PyData.eqv y (rD Q)) else none) = _
    rw [if_pos ⟨okD_rD Q, okD_rows L⟩]
    congr 1
    rw [Bool.eq_iff_iff, List.any_eq_true, decide_eq_true_eq]
    have e : ∀ a b : List Ce, PyData.eqv (rD a) (rD b) = decide (a = b) := fun a b => eqv_rD a b
    constructor
    · rintro ⟨x, hx, q⟩
      obtain ⟨d, hd, rfl⟩ := List.mem_map.mp hx
      rw [e] at q
      rw [← of_decide_eq_true q]
      exact hd
    · intro h
      exact ⟨rD Q, List.mem_map.mpr ⟨Q, h, rfl⟩, by rw [e]; simp⟩
  unfold gIn
  rw [h]
  rfl
theorem v_many (cup : D) (hc : Cup cup) : ∃ (n : Nat) (cup' : D), n < 9 ∧ f__law_some.m [cup, .list [.int 1, .int 3, .int 5, .int 9]] = .ok (.int ((n + 1 : Nat) : Int), cup') ∧ Cup cup' := by
  obtain ⟨x, cup', hx, e, hc'⟩ := v_some cup [.int 1, .int 3, .int 5, .int 9] hc (by simp) (by simp)
  simp only [List.mem_cons, List.not_mem_nil, or_false] at hx
  rcases hx with rfl | rfl | rfl | rfl
  · exact ⟨0, cup', by decide, e, hc'⟩
  · exact ⟨2, cup', by decide, e, hc'⟩
  · exact ⟨4, cup', by decide, e, hc'⟩
  · exact ⟨8, cup', by decide, e, hc'⟩
abbrev b1B : DS := sSeq (sPar [20, 21] [.v (eCall f__law_grown (chkN f__law_grown.np (aCons (eOwn 1) (aCons (eCall f__law_some (chkN f__law_some.np (aCons (eOwn 1) (aCons (vOf (oLst (aCons (eC (.int 1)) (aCons (eC (.int 3)) (aCons (eC (.int 5)) (aCons (eC (.int 9)) (aNil))))))) (aNil))))) (aNil))))), .v (eCall f__law_grown (chkN f__law_grown.np (aCons (eOwn 1) (aCons (eCall f__law_some (chkN f__law_some.np (aCons (eOwn 1) (aCons (vOf (oLst (aCons (eC (.int 1)) (aCons (eC (.int 3)) (aCons (eC (.int 5)) (aCons (eC (.int 9)) (aNil))))))) (aNil))))) (aNil)))))]) (sSeq (sSet 6 (vBin gIn (eCall f__law_placed (chkN f__law_placed.np (aCons (eVar 21) (aNil)))) (vOf (oComp (iSeq (eCall f__law_forms (chkN f__law_forms.np (aCons (eVar 20) (aNil))))) [22, 23, 24] (bTup 3 (bCons (bName 22) (bCons (bName 23) (bCons (bName 24) (bNil))))) (tYesD) (eVar 24))))) (sIf (tOrr (tNo (tTru (eCall f__law_right (chkN f__law_right.np (aCons (eOwn 1) (aCons (eVar 20) (aNil))))))) (tNo (tTru (eCall (f__law_like 8) (chkN (f__law_like 8).np (aCons (vOf (oLst (aCons (eCall f_are_alike (chkN f_are_alike.np (aCons (eVar 20) (aCons (eVar 21) (aNil))))) (aCons (eCall f_are_alike (chkN f_are_alike.np (aCons (eVar 21) (aCons (eVar 20) (aNil))))) (aNil))))) (aCons (vOf (oLst (aCons (eVar 6) (aCons (eVar 6) (aNil))))) (aNil)))))))) (sRet (eC (.bool false))) (sNext)))
theorem b1_step (sc cup : D) (x2 x6 x20 x21 : Option D) (hc : Cup cup) : ∃ cup' y6 y20 y21, b1B (Lb sc cup x2 x6 x20 x21) = .ok (.nx, Lb sc cup' x2 y6 y20 y21) ∧ Cup cup' := by
  obtain ⟨n1, cup1, hn1, e1, hc1⟩ := v_many cup hc
  obtain ⟨P, cup2, e2, hc2, gP, sP⟩ := v_grown cup1 n1 hc1 hn1
  obtain ⟨n2, cup3, hn2, e3, hc3⟩ := v_many cup2 hc2
  obtain ⟨R, cup4, e4, hc4, gR, sR⟩ := v_grown cup3 n2 hc3 hn2
  obtain ⟨cup5, e5, hc5⟩ := v_right cup4 P hc4 gP sP
  have pP : Pcs P := ⟨gP.mono (by omega), sP⟩
  have pR : Pcs R := ⟨gR.mono (by omega), sR⟩
  generalize ((n1 + 1 : Nat) : Int) = N1 at e1 e2
  generalize ((n2 + 1 : Nat) : Int) = N2 at e3 e4
  have pl := v_placed_in (rD R) R rfl pR.ne pR.len
  rw [← e_placed] at pl
  have fo := v_forms_of P pP.ne pP.len
  rw [← e_forms] at fo
  have inr := in_rows (plc R) (frms P)
  have a1 := v_alike P R pP pR
  have a2 := v_alike R P pR pP
  have d1 : decide (lst P = lst R) = decide (plc R ∈ frms P) := dec_iff lst_iff
  have d2 : decide (lst R = lst P) = decide (plc R ∈ frms P) := by rw [← d1]; exact dec_iff ⟨Eq.symm, Eq.symm⟩
  rw [d1] at a1
  rw [d2] at a2
  generalize decide (plc R ∈ frms P) = due at inr a1 a2
  have lk : (f__law_like 8).m [.list [.bool due, .bool due], .list [.bool due, .bool due]] = .ok (.bool true, .none) := v_like 7 _ ⟨by simp, fun y hy => by simp at hy; rw [hy]; exact True.intro⟩
  have c := fun (x6 : Option D) => (show oComp (iSeq (eCall f__law_forms (chkN 1 (aCons (eVar 20) (aNil))))) [22, 23, 24] (bTup 3 (bCons (bName 22) (bCons (bName 23) (bCons (bName 24) (bNil))))) (tYesD) (eVar 24) [some sc, some cup4, x2, none, none, none, x6, none, none, none, none, none, none, none, none, none, none, none, none, none, some (rD P), some (rD R), none, none, none, none, none, none] = .ok (.list ((frms P).map rD), [some sc, some cup4, x2, none, none, none, x6, none, none, none, none, none, none, none, none, none, none, none, none, none, some (rD P), some (rD R), none, none, none, none, none, none]) from by
    rw [oComp_map (enc := foE) (f := fun x => rD x.2.2) (xs := fX P) (by unfold iSeq; walk_at "ev"; rw [fo, fX_D]; walk_at "ev") (by rw [sizeLine_eq]; simp [fX]) (fun a ha => ⟨_, rfl, by walk_at "ev", by simp [wipeE]⟩) rfl]
    rw [← fX_frms, List.map_map]
    rfl)
  generalize (frms P).map rD = X at c inr
  refine ⟨cup5, some (.bool due), some (rD P), some (rD R), ?_, hc5⟩
  unfold Lb
  walk_at "ev"
  rw [e1]
  walk_at "ev"
  rw [e2]
  walk_at "ev"
  rw [e3]
  walk_at "ev"
  rw [e4]
  walk_at "ev"
  rw [pl]
  walk_at "ev"
  rw [c]
  walk_at "ev"
  rw [inr]
  walk_at "ev"
  rw [e5]
  walk_at "ev"
  rw [a1]
  walk_at "ev"
  rw [a2]
  walk_at "ev"
  rw [lk]
  walk_at "ev"
end WL

set_option Elab.async false
set_option linter.all false
set_option maxRecDepth 100000
set_option maxHeartbeats 4000000
namespace WL
open PySem PySem.Spec PyProof.Rows L2 HotX L2H LamX TL Pc
local macro_rules | `(tactic| walk_at "ev") => `(tactic| try simp [bodyM, sSeq, sIf, sSet, sSetO, sRet, sRetO, sRetS, sRetN, sApp, sPop, sDrop, sRaise, sUnp, sPar, sNext, oLst, oCall, oBin, oRep, vOf, aNil, aCons, eTup, eC, eVar, eOwn, vCall, vUn, vBin, vAn, vOrr, vNo, vIf, vChain, tOf, tTru, tNo, tAn, tOrr, ioGet, List.replicate, eCall, oCallF, chkN, z_call1, z_call2, z_call3, z_io1, z_io2, z_io3, vSl, pNone, pSome, eIdx, sizeLine_eq, wipeE, backE])
theorem call1_ok {f : FnS} {m : DE} {ev : Ev} {a d : D} (h : f.io = none) (hn : f.np = 1) (hm : m ev = .ok (.val a, ev)) (hf : f.m [a] = .ok (d, .none)) : eCall f (chkN f.np (aCons m aNil)) ev = .ok (.val d, ev) := by
  unfold eCall chkN
  rw [aCons_ok hm (aNil_ok ev)]
  simp only [Res.bind_ok]
  rw [if_pos (by rw [hn]; rfl)]
  simp only [Res.bind_ok]
  rw [z_call1 h, hf]
  rfl
theorem call2_ok {f : FnS} {m n : DE} {ev : Ev} {a b d : D} (h : f.io = none) (hn : f.np = 2) (hm : m ev = .ok (.val a, ev)) (hm2 : n ev = .ok (.val b, ev)) (hf : f.m [a, b] = .ok (d, .none)) : eCall f (chkN f.np (aCons m (aCons n aNil))) ev = .ok (.val d, ev) := by
  unfold eCall chkN
  rw [aCons_ok hm (aCons_ok hm2 (aNil_ok ev))]
  simp only [Res.bind_ok]
  rw [if_pos (by rw [hn]; rfl)]
  simp only [Res.bind_ok]
  rw [z_call2 h, hf]
  rfl
theorem lst_ok {r : DA} {ev : Ev} {vs : List D} (h : r ev = .ok (vs.map .val, ev)) (hl : vs.length ≤ 1000) : vOf (oLst r) ev = .ok (.val (.list vs), ev) := by
  have e : ∀ vs : List D, vals (vs.map .val) ev = .ok (vs, ev) := fun vs => by
    induction vs with
    | nil => rfl
    | cons a vs ih => simp [ih]
  unfold vOf oLst
  rw [h]
  simp only [Res.bind_ok]
  rw [e]
  simp only [Res.bind_ok]
  rw [if_pos (by rw [sizeLine_eq]; omega)]
  rfl
/-! ### the told examples -/
def smP : List Ce := [(0, 0), (0, 1), (1, 0)]
def skP : List Ce := [(0, 0), (1, 0), (1, 1), (2, 1)]
def TLD : D := .list [rD [(0, 0), (0, 1)], rD [(0, 0), (1, 0), (1, 1)], rD [(0, 1), (1, 0), (1, 1), (2, 0)], rD [(0, 0), (0, 1), (1, 1), (1, 2)], .bool true, .tuple [prD (0, false), prD (2, false)], .tuple [prD (0, false), prD (3, true)]]
theorem pcs_of {P : List Ce} (h : gd P = true) (s : Srt P) : Pcs P := ⟨(gd_ok h).mono (by omega), s⟩
theorem pc_sm : Pcs smP := pcs_of (by decide +kernel) (by unfold Srt; decide +kernel)
theorem pc_sk : Pcs skP := pcs_of (by decide +kernel) (by unfold Srt; decide +kernel)
theorem pc_two : Pcs [(3, 3), (3, 4)] := pcs_of (by decide +kernel) (by unfold Srt; decide +kernel)
theorem pc_sk4 : Pcs (frm 4 skP) := ⟨((gd_ok (show gd skP = true from by decide +kernel)).frm (i := 4) (by decide)).1.mono (by omega), srt_srt _⟩
theorem k_two : plc [(3, 3), (3, 4)] = [(0, 0), (0, 1)] := by decide +kernel
theorem k_sm1 : frm 1 smP = [(0, 0), (1, 0), (1, 1)] := by decide +kernel
theorem k_sk4 : frm 4 skP = [(0, 1), (1, 0), (1, 1), (2, 0)] := by decide +kernel
theorem k_skl : lst skP = [(0, 0), (0, 1), (1, 1), (1, 2)] := by decide +kernel
theorem k_ska : decide (lst skP = lst (frm 4 skP)) = true := by decide +kernel
theorem k_sks : syL skP = [(0, false), (2, false)] := by decide +kernel
theorem k_sms : syL smP = [(0, false), (3, true)] := by decide +kernel
theorem dle_pr (a b : Nat × Bool) (h : a.1 < b.1) : PySem.W.dataLe false (fun d : D => d) (prD a) (prD b) = true := by
  rw [PySem.W.dataLe_eq]
  show (!PySem.W.dataLt (prD b) (prD a)) = true
  have t : PySem.W.dataLt (prD b) (prD a) = false := by
    unfold prD
    rw [PySem.W.dataLt_tuple, PySem.W.dataLt_cons (by simp [PySem.W.alike])]
    have e : PyData.eqv (PyData.int (b.1 : Int)) (PyData.int (a.1 : Int)) = false := by
      simp [PyData.eqv]
      omega
    rw [e, PySem.W.dataLt_int]
    simp
    omega
  rw [t]
  rfl
theorem two_sorted (a b : Nat × Bool) (h : a.1 < b.1) : TL.sortD [prD a, prD b] = [prD a, prD b] := by
  unfold TL.sortD
  refine List.mergeSort_of_pairwise ?_
  refine List.pairwise_cons.mpr ⟨fun x hx => ?_, List.pairwise_cons.mpr ⟨fun x hx => by simp at hx, .nil⟩⟩
  rw [List.mem_singleton] at hx
  rw [hx]
  exact dle_pr a b h
theorem k_skD : syD skP = [prD (0, false), prD (2, false)] := by
  unfold syD
  rw [k_sks]
  exact two_sorted _ _ (by decide)
theorem k_smD : syD smP = [prD (0, false), prD (3, true)] := by
  unfold syD
  rw [k_sms]
  exact two_sorted _ _ (by decide)
abbrev g2 : DS := sUnp (bTup 2 (bCons (bName 3) (bCons (bName 4) (bNil)))) (eTup (aCons (eTup (aCons (eTup (aCons (eC (.int 0)) (aCons (eC (.int 0)) (aNil)))) (aCons (eTup (aCons (eC (.int 0)) (aCons (eC (.int 1)) (aNil)))) (aCons (eTup (aCons (eC (.int 1)) (aCons (eC (.int 0)) (aNil)))) (aNil))))) (aCons (eTup (aCons (eTup (aCons (eC (.int 0)) (aCons (eC (.int 0)) (aNil)))) (aCons (eTup (aCons (eC (.int 1)) (aCons (eC (.int 0)) (aNil)))) (aCons (eTup (aCons (eC (.int 1)) (aCons (eC (.int 1)) (aNil)))) (aCons (eTup (aCons (eC (.int 2)) (aCons (eC (.int 1)) (aNil)))) (aNil)))))) (aNil))))
abbrev g3 : DS := sSet 5 (vOf (oLst (aCons (eCall f_placed (chkN f_placed.np (aCons (eTup (aCons (eTup (aCons (eC (.int 3)) (aCons (eC (.int 3)) (aNil)))) (aCons (eTup (aCons (eC (.int 3)) (aCons (eC (.int 4)) (aNil)))) (aNil)))) (aNil)))) (aCons (eCall f_turned (chkN f_turned.np (aCons (eVar 3) (aNil)))) (aCons (eCall f_mirrored (chkN f_mirrored.np (aCons (eVar 4) (aNil)))) (aCons (eCall f_least_form (chkN f_least_form.np (aCons (eVar 4) (aNil)))) (aCons (eCall f_are_alike (chkN f_are_alike.np (aCons (eVar 4) (aCons (eCall f_mirrored (chkN f_mirrored.np (aCons (eVar 4) (aNil)))) (aNil))))) (aCons (eCall f_symmetries (chkN f_symmetries.np (aCons (eVar 4) (aNil)))) (aCons (eCall f_symmetries (chkN f_symmetries.np (aCons (eVar 3) (aNil)))) (aNil))))))))))
abbrev g4 : DS := sSet 6 (vOf (oLst (aCons (eTup (aCons (eTup (aCons (eC (.int 0)) (aCons (eC (.int 0)) (aNil)))) (aCons (eTup (aCons (eC (.int 0)) (aCons (eC (.int 1)) (aNil)))) (aNil)))) (aCons (eTup (aCons (eTup (aCons (eC (.int 0)) (aCons (eC (.int 0)) (aNil)))) (aCons (eTup (aCons (eC (.int 1)) (aCons (eC (.int 0)) (aNil)))) (aCons (eTup (aCons (eC (.int 1)) (aCons (eC (.int 1)) (aNil)))) (aNil))))) (aCons (eTup (aCons (eTup (aCons (eC (.int 0)) (aCons (eC (.int 1)) (aNil)))) (aCons (eTup (aCons (eC (.int 1)) (aCons (eC (.int 0)) (aNil)))) (aCons (eTup (aCons (eC (.int 1)) (aCons (eC (.int 1)) (aNil)))) (aCons (eTup (aCons (eC (.int 2)) (aCons (eC (.int 0)) (aNil)))) (aNil)))))) (aCons (eTup (aCons (eTup (aCons (eC (.int 0)) (aCons (eC (.int 0)) (aNil)))) (aCons (eTup (aCons (eC (.int 0)) (aCons (eC (.int 1)) (aNil)))) (aCons (eTup (aCons (eC (.int 1)) (aCons (eC (.int 1)) (aNil)))) (aCons (eTup (aCons (eC (.int 1)) (aCons (eC (.int 2)) (aNil)))) (aNil)))))) (aCons (eC (.bool true)) (aCons (eTup (aCons (eTup (aCons (eC (.int 0)) (aCons (eC (.bool false)) (aNil)))) (aCons (eTup (aCons (eC (.int 2)) (aCons (eC (.bool false)) (aNil)))) (aNil)))) (aCons (eTup (aCons (eTup (aCons (eC (.int 0)) (aCons (eC (.bool false)) (aNil)))) (aCons (eTup (aCons (eC (.int 3)) (aCons (eC (.bool true)) (aNil)))) (aNil)))) (aNil))))))))))
abbrev g5 : DS := sIf (tNo (tTru (eCall (f__law_like 8) (chkN (f__law_like 8).np (aCons (eVar 5) (aCons (eVar 6) (aNil))))))) (sRet (eC (.bool false))) (sNext)
theorem s2_ok (sc cup : D) (x2 x20 x21 : Option D) (x6 : Option D) : g2 [some sc, some cup, x2, none, none, none, x6, none, none, none, none, none, none, none, none, none, none, none, none, none, x20, x21, none, none, none, none, none, none] = .ok (.nx, [some sc, some cup, x2, some (rD smP), some (rD skP), none, x6, none, none, none, none, none, none, none, none, none, none, none, none, none, x20, x21, none, none, none, none, none, none]) := rfl
theorem s3_ok (sc cup : D) (x2 x20 x21 : Option D) (x6 : Option D) : g3 [some sc, some cup, x2, some (rD smP), some (rD skP), none, x6, none, none, none, none, none, none, none, none, none, none, none, none, none, x20, x21, none, none, none, none, none, none] = .ok (.nx, [some sc, some cup, x2, some (rD smP), some (rD skP), some TLD, x6, none, none, none, none, none, none, none, none, none, none, none, none, none, x20, x21, none, none, none, none, none, none]) := by
  refine set_ok (ev1 := [some sc, some cup, x2, some (rD smP), some (rD skP), none, x6, none, none, none, none, none, none, none, none, none, none, none, none, none, x20, x21, none, none, none, none, none, none]) (d := TLD) ?_
  have v3 : eVar 3 [some sc, some cup, x2, some (rD smP), some (rD skP), none, x6, none, none, none, none, none, none, none, none, none, none, none, none, none, x20, x21, none, none, none, none, none, none] = .ok (.val (rD smP), [some sc, some cup, x2, some (rD smP), some (rD skP), none, x6, none, none, none, none, none, none, none, none, none, none, none, none, none, x20, x21, none, none, none, none, none, none]) := rfl
  have v4 : eVar 4 [some sc, some cup, x2, some (rD smP), some (rD skP), none, x6, none, none, none, none, none, none, none, none, none, none, none, none, none, x20, x21, none, none, none, none, none, none] = .ok (.val (rD skP), [some sc, some cup, x2, some (rD smP), some (rD skP), none, x6, none, none, none, none, none, none, none, none, none, none, none, none, none, x20, x21, none, none, none, none, none, none]) := rfl
  have ta : eTup (aCons (eTup (aCons (eC (.int 3)) (aCons (eC (.int 3)) (aNil)))) (aCons (eTup (aCons (eC (.int 3)) (aCons (eC (.int 4)) (aNil)))) (aNil))) [some sc, some cup, x2, some (rD smP), some (rD skP), none, x6, none, none, none, none, none, none, none, none, none, none, none, none, none, x20, x21, none, none, none, none, none, none] = .ok (.val (rD [(3, 3), (3, 4)]), [some sc, some cup, x2, some (rD smP), some (rD skP), none, x6, none, none, none, none, none, none, none, none, none, none, none, none, none, x20, x21, none, none, none, none, none, none]) := rfl
  generalize [some sc, some cup, x2, some (rD smP), some (rD skP), none, x6, none, none, none, none, none, none, none, none, none, none, none, none, none, x20, x21, none, none, none, none, none, none] = ev at v3 v4 ta ⊢
  have q4 := v_mirrored skP pc_sk
  have q5 := v_alike skP (frm 4 skP) pc_sk pc_sk4
  rw [k_ska] at q5
  have q6 := v_symmetries skP pc_sk
  have q7 := v_symmetries smP pc_sm
  rw [k_skD] at q6
  rw [k_smD] at q7
  have q1 := v_placed _ pc_two
  rw [k_two] at q1
  have q2 := v_turned _ pc_sm
  rw [k_sm1] at q2
  have q3 := v_least _ pc_sk
  rw [k_skl] at q3
  have c3 := call1_ok rfl rfl v4 q4
  have c5 := call2_ok rfl rfl v4 c3 q5
  rw [k_sk4] at q4
  exact lst_ok (vs := [_, _, _, _, _, _, _]) (aCons_ok (call1_ok rfl rfl ta q1) (aCons_ok (call1_ok rfl rfl v3 q2) (aCons_ok (call1_ok rfl rfl v4 q4) (aCons_ok (call1_ok rfl rfl v4 q3) (aCons_ok c5 (aCons_ok (call1_ok rfl rfl v4 q6) (aCons_ok (call1_ok rfl rfl v3 q7) (aNil_ok ev)))))))) (by simp)
theorem s4_ok (sc cup : D) (x2 x20 x21 : Option D) (x6 : Option D) : g4 [some sc, some cup, x2, some (rD smP), some (rD skP), some TLD, x6, none, none, none, none, none, none, none, none, none, none, none, none, none, x20, x21, none, none, none, none, none, none] = .ok (.nx, [some sc, some cup, x2, some (rD smP), some (rD skP), some TLD, some TLD, none, none, none, none, none, none, none, none, none, none, none, none, none, x20, x21, none, none, none, none, none, none]) := rfl
theorem s5_ok (sc cup : D) (x2 x20 x21 : Option D) : g5 [some sc, some cup, x2, some (rD smP), some (rD skP), some TLD, some TLD, none, none, none, none, none, none, none, none, none, none, none, none, none, x20, x21, none, none, none, none, none, none] = .ok (.nx, [some sc, some cup, x2, some (rD smP), some (rD skP), some TLD, some TLD, none, none, none, none, none, none, none, none, none, none, none, none, none, x20, x21, none, none, none, none, none, none]) := by
  have l : (f__law_like 8).m [TLD, TLD] = .ok (.bool true, .none) := v_like 7 _ ⟨by simp, fun y hy => by
    simp only [List.mem_cons, List.not_mem_nil, or_false] at hy
    rcases hy with rfl | rfl | rfl | rfl | rfl | rfl | rfl
    · exact good_row 4 _ (by simp)
    · exact good_row 4 _ (by simp)
    · exact good_row 4 _ (by simp)
    · exact good_row 4 _ (by simp)
    · exact True.intro
    · rw [← k_skD]; exact good_sy 4 skP
    · rw [← k_smD]; exact good_sy 4 smP⟩
  have v5 : eVar 5 [some sc, some cup, x2, some (rD smP), some (rD skP), some TLD, some TLD, none, none, none, none, none, none, none, none, none, none, none, none, none, x20, x21, none, none, none, none, none, none] = .ok (.val TLD, [some sc, some cup, x2, some (rD smP), some (rD skP), some TLD, some TLD, none, none, none, none, none, none, none, none, none, none, none, none, none, x20, x21, none, none, none, none, none, none]) := rfl
  have v6 : eVar 6 [some sc, some cup, x2, some (rD smP), some (rD skP), some TLD, some TLD, none, none, none, none, none, none, none, none, none, none, none, none, none, x20, x21, none, none, none, none, none, none] = .ok (.val TLD, [some sc, some cup, x2, some (rD smP), some (rD skP), some TLD, some TLD, none, none, none, none, none, none, none, none, none, none, none, none, none, x20, x21, none, none, none, none, none, none]) := rfl
  generalize [some sc, some cup, x2, some (rD smP), some (rD skP), some TLD, some TLD, none, none, none, none, none, none, none, none, none, none, none, none, none, x20, x21, none, none, none, none, none, none] = ev at v5 v6 ⊢
  have c := call2_ok (f := f__law_like 8) rfl rfl v5 v6 l
  unfold g5 sIf tNo tTru
  rw [c]
  rfl
end WL

set_option Elab.async false
set_option linter.all false
set_option maxRecDepth 100000
set_option maxHeartbeats 4000000
namespace WL
open PySem PySem.Spec PyProof.Rows L2 HotX L2H LamX TL Pc
local macro_rules | `(tactic| walk_at "ev") => `(tactic| try simp [bodyM, sSeq, sIf, sSet, sSetO, sRet, sRetO, sRetS, sRetN, sApp, sPop, sDrop, sRaise, sUnp, sPar, sNext, oLst, oCall, oBin, oRep, vOf, aNil, aCons, eTup, eC, eVar, eOwn, vCall, vUn, vBin, vAn, vOrr, vNo, vIf, vChain, tOf, tTru, tNo, tAn, tOrr, ioGet, List.replicate, eCall, oCallF, chkN, z_call1, z_call2, z_call3, z_io1, z_io2, z_io3, vSl, pNone, pSome, eIdx, sizeLine_eq, wipeE, backE])
theorem fm7 (i : Nat) : ((i : Nat) : Int).fmod 7 = ((i % 7 : Nat) : Int) := by rw [Int.fmod_eq_emod_of_nonneg _ (by decide)]; omega
theorem fd7 (i : Nat) : ((i : Nat) : Int).fdiv 7 = ((i / 7 : Nat) : Int) := by rw [Int.fdiv_eq_ediv_of_nonneg _ (by decide)]; omega
theorem fd2 (i : Nat) : ((i : Nat) : Int).fdiv 2 = ((i / 2 : Nat) : Int) := by rw [Int.fdiv_eq_ediv_of_nonneg _ (by decide)]; omega
theorem fd2' (i : Nat) : ((i : Nat) + 1 : Int).fdiv 2 = (((i + 1) / 2 : Nat) : Int) := by rw [Int.fdiv_eq_ediv_of_nonneg _ (by decide)]; omega
theorem rng_const {ev : Ev} (n : Nat) (h : n < 1000000) : TL.iRng1 (aCons (eC (.int (n : Nat))) aNil) ev = .ok ((List.range n).map fun i => .int (i : Nat), ev) := iRng1_ok (n := n) rfl h
theorem rng49 {ev : Ev} : TL.iRng1 (aCons (eC (.int 49)) aNil) ev = .ok ((List.range 49).map fun i => .int (i : Nat), ev) := rng_const 49 (by decide)
theorem rng60 {ev : Ev} : TL.iRng1 (aCons (eC (.int 60)) aNil) ev = .ok ((List.range 60).map fun i => .int (i : Nat), ev) := rng_const 60 (by decide)
theorem rng59 {ev : Ev} : TL.iRng1 (aCons (eC (.int 59)) aNil) ev = .ok ((List.range 59).map fun i => .int (i : Nat), ev) := rng_const 59 (by decide)
abbrev g6 : DS := sSet 7 (vBin TL.gSub (eCall f__law_roll (chkN f__law_roll.np (aCons (eOwn 1) (aCons (eC (.int 40)) (aNil))))) (eC (.int 20)))
abbrev g7 : DS := sPar [8, 9] [.v (vCall gTuple (aCons (vOf (oCall gSorted (aCons (vOf (oComp (iRng1 (aCons (eC (.int 49)) (aNil))) [20] (bName 20) (tYesD) (eTup (aCons (vBin gAdd (eVar 7) (vBin gMod (vCall gInt (aCons (eVar 20) (aNil))) (eC (.int 7)))) (aCons (vBin gFdiv (vCall gInt (aCons (eVar 20) (aNil))) (eC (.int 7))) (aNil)))))) (aNil)))) (aNil))), .v (vCall gTuple (aCons (vOf (oComp (iRng1 (aCons (eC (.int 60)) (aNil))) [25] (bName 25) (tYesD) (eTup (aCons (eVar 25) (aCons (eVar 7) (aNil)))))) (aNil)))]
abbrev g8 : DS := sSet 10 (vOf (oLst (aCons (eTup (aCons (eC (.int 0)) (aCons (eC (.int 0)) (aNil)))) (aNil))))
abbrev g9 : DS := sFor (iRng2 (aCons (eC (.int 1)) (aCons (eC (.int 15)) (aNil)))) (bName 11) (sSet 10 (vBin gAdd (eVar 10) (vOf (oLst (aCons (eTup (aCons (eVar 11) (aCons (eC (.int 0)) (aNil)))) (aCons (eTup (aCons (vUn gNeg (eVar 11)) (aCons (eC (.int 0)) (aNil)))) (aCons (eTup (aCons (eC (.int 0)) (aCons (eVar 11) (aNil)))) (aCons (eTup (aCons (eC (.int 0)) (aCons (vUn gNeg (eVar 11)) (aNil)))) (aNil)))))))))
abbrev g10 : DS := sSet 12 (vOf (oCall gSorted (aCons (vOf (oLst (aCons (eTup (aCons (eC (.int 0)) (aCons (eC (.int 0)) (aNil)))) (aCons (eTup (aCons (eC (.int 1)) (aCons (eC (.int 0)) (aNil)))) (aCons (eTup (aCons (eC (.int 1)) (aCons (eC (.int 1)) (aNil)))) (aCons (eTup (aCons (eC (.int 0)) (aCons (eC (.int 1)) (aNil)))) (aCons (eTup (aCons (eC (.int 2)) (aCons (eC (.int 0)) (aNil)))) (aCons (eTup (aCons (eC (.int 1)) (aCons (eC (.int 2)) (aNil)))) (aCons (eTup (aCons (vUn gNeg (eC (.int 1))) (aCons (eC (.int 1)) (aNil)))) (aCons (eTup (aCons (eC (.int 0)) (aCons (vUn gNeg (eC (.int 1))) (aNil)))) (aNil))))))))))) (aNil))))
abbrev g11 : DS := sSet 13 (vCall gTuple (aCons (vBin gAdd (vOf (oComp (iRng1 (aCons (eC (.int 59)) (aNil))) [26] (bName 26) (tYesD) (eTup (aCons (eC (.int 0)) (aCons (eVar 26) (aNil)))))) (vOf (oLst (aCons (eTup (aCons (eC (.int 1)) (aCons (eC (.int 0)) (aNil)))) (aNil))))) (aNil)))
theorem s6_ok (sc cup : D) (x2 x20 x21 : Option D) (hc : Cup cup) : ∃ (cup' : D) (a : Int), g6 [some sc, some cup, x2, some (rD smP), some (rD skP), some TLD, some TLD, none, none, none, none, none, none, none, none, none, none, none, none, none, x20, x21, none, none, none, none, none, none] = .ok (.nx, [some sc, some cup', x2, some (rD smP), some (rD skP), some TLD, some TLD, some (.int a), none, none, none, none, none, none, none, none, none, none, none, none, x20, x21, none, none, none, none, none, none]) ∧ Cup cup' ∧ -20 ≤ a ∧ a < 20 := by
  obtain ⟨r, cup', e, r0, r1, hc'⟩ := v_roll cup 40 hc (by decide) (by decide)
  refine ⟨cup', r - 20, ?_, hc', by omega, by omega⟩
  unfold g6
  walk_at "ev"
  rw [e]
  walk_at "ev"
theorem sq_comp (sc cup : D) (x2 x20 x21 : Option D) (a : Int) : oComp (iRng1 (aCons (eC (.int 49)) (aNil))) [20] (bName 20) (tYesD) (eTup (aCons (vBin gAdd (eVar 7) (vBin gMod (vCall gInt (aCons (eVar 20) (aNil))) (eC (.int 7)))) (aCons (vBin gFdiv (vCall gInt (aCons (eVar 20) (aNil))) (eC (.int 7))) (aNil)))) [some sc, some cup, x2, some (rD smP), some (rD skP), some TLD, some TLD, some (.int a), none, none, none, none, none, none, none, none, none, none, none, none, x20, x21, none, none, none, none, none, none] = .ok (.list ((square.map (sh (a, 0))).map tD), [some sc, some cup, x2, some (rD smP), some (rD skP), some TLD, some TLD, some (.int a), none, none, none, none, none, none, none, none, none, none, none, none, x20, x21, none, none, none, none, none, none]) := by
  rw [oComp_map (enc := fun i : Nat => .int (i : Nat)) (f := fun i => tD (sh (a, 0) ((i % 7 : Nat), (i / 7 : Nat)))) (xs := List.range 49) rng49 (by rw [sizeLine_eq]; simp) (fun i _ => by
    refine ⟨[some sc, some cup, x2, some (rD smP), some (rD skP), some TLD, some TLD, some (.int a), none, none, none, none, none, none, none, none, none, none, none, none, some (.int (i : Nat)), x21, none, none, none, none, none, none], rfl, ?_, rfl⟩
    have h1 : gMod (.int ((i : Nat) : Int)) (.int 7) = some (.int ((i % 7 : Nat) : Int)) := by rw [z_mod (by decide), fm7]
    have h2 : gFdiv (.int ((i : Nat) : Int)) (.int 7) = some (.int ((i / 7 : Nat) : Int)) := by rw [z_fdiv (by decide) (by decide), fd7]
    have h3 : tD (sh (a, 0) ((i % 7 : Nat), (i / 7 : Nat))) = .tuple [.int (a + ((i % 7 : Nat) : Int)), .int ((i / 7 : Nat) : Int)] := by simp [tD, sh, Int.add_comm]
    rw [h3]
    generalize ((i % 7 : Nat) : Int) = u at h1
    generalize ((i / 7 : Nat) : Int) = v at h2
    walk_at "ev"
    rw [h1]
    walk_at "ev"
    rw [h2]
    walk_at "ev") rfl]
  unfold square
  rw [List.map_map, List.map_map]
  rfl
theorem ba_comp (sc cup : D) (x2 x20 x21 : Option D) (a : Int) : oComp (iRng1 (aCons (eC (.int 60)) (aNil))) [25] (bName 25) (tYesD) (eTup (aCons (eVar 25) (aCons (eVar 7) (aNil)))) [some sc, some cup, x2, some (rD smP), some (rD skP), some TLD, some TLD, some (.int a), none, none, none, none, none, none, none, none, none, none, none, none, x20, x21, none, none, none, none, none, none] = .ok (.list ((bar.map (sh (0, a))).map tD), [some sc, some cup, x2, some (rD smP), some (rD skP), some TLD, some TLD, some (.int a), none, none, none, none, none, none, none, none, none, none, none, none, x20, x21, none, none, none, none, none, none]) := by
  rw [oComp_map (enc := fun i : Nat => .int (i : Nat)) (f := fun i => tD (sh (0, a) ((i : Nat), 0))) (xs := List.range 60) rng60 (by rw [sizeLine_eq]; simp) (fun i _ => by
    refine ⟨[some sc, some cup, x2, some (rD smP), some (rD skP), some TLD, some TLD, some (.int a), none, none, none, none, none, none, none, none, none, none, none, none, x20, x21, none, none, none, some (.int (i : Nat)), none, none], rfl, ?_, rfl⟩
    have h3 : tD (sh (0, a) ((i : Nat), 0)) = .tuple [.int (i : Nat), .int a] := by simp [tD, sh]
    rw [h3]
    walk_at "ev") rfl]
  unfold bar
  rw [List.map_map, List.map_map]
  rfl
theorem s7_ok (sc cup : D) (x2 x20 x21 : Option D) (a : Int) : g7 [some sc, some cup, x2, some (rD smP), some (rD skP), some TLD, some TLD, some (.int a), none, none, none, none, none, none, none, none, none, none, none, none, x20, x21, none, none, none, none, none, none] = .ok (.nx, [some sc, some cup, x2, some (rD smP), some (rD skP), some TLD, some TLD, some (.int a), some (rD (srt (square.map (sh (a, 0))))), some (rD (bar.map (sh (0, a)))), none, none, none, none, none, none, none, none, none, none, x20, x21, none, none, none, none, none, none]) := by
  have c1 := sq_comp sc cup x2 x20 x21 a
  have c2 := ba_comp sc cup x2 x20 x21 a
  have s1 := sorted_ce (square.map (sh (a, 0)))
  have r1 : rD (srt (square.map (sh (a, 0)))) = .tuple ((srt (square.map (sh (a, 0)))).map tD) := rfl
  have r2 : rD (bar.map (sh (0, a))) = .tuple ((bar.map (sh (0, a))).map tD) := rfl
  rw [r1, r2]
  generalize (srt (square.map (sh (a, 0)))).map tD = X1 at s1
  generalize (square.map (sh (a, 0))).map tD = X0 at c1 s1
  generalize (bar.map (sh (0, a))).map tD = X2 at c2
  unfold g7
  generalize iRng1 (aCons (eC (.int 49)) (aNil)) = I1 at c1 ⊢
  generalize iRng1 (aCons (eC (.int 60)) (aNil)) = I2 at c2 ⊢
  walk_at "ev"
  rw [c1]
  walk_at "ev"
  rw [s1]
  walk_at "ev"
  rw [c2]
  walk_at "ev"
end WL

set_option Elab.async false
set_option linter.all false
set_option maxRecDepth 100000
set_option maxHeartbeats 4000000
namespace WL
open PySem PySem.Spec PyProof.Rows L2 HotX L2H LamX TL Pc
local macro_rules | `(tactic| walk_at "ev") => `(tactic| try simp [bodyM, sSeq, sIf, sSet, sSetO, sRet, sRetO, sRetS, sRetN, sApp, sPop, sDrop, sRaise, sUnp, sPar, sNext, oLst, oCall, oBin, oRep, vOf, aNil, aCons, eTup, eC, eVar, eOwn, vCall, vUn, vBin, vAn, vOrr, vNo, vIf, vChain, tOf, tTru, tNo, tAn, tOrr, ioGet, List.replicate, eCall, oCallF, chkN, z_call1, z_call2, z_call3, z_io1, z_io2, z_io3, vSl, pNone, pSome, eIdx, sizeLine_eq, wipeE, backE])
theorem s8_ok (sc cup : D) (x2 x20 x21 : Option D) (sqD baD : D) (a : Int) : g8 [some sc, some cup, x2, some (rD smP), some (rD skP), some TLD, some TLD, some (.int a), some (sqD), some (baD), none, none, none, none, none, none, none, none, none, none, x20, x21, none, none, none, none, none, none] = .ok (.nx, [some sc, some cup, x2, some (rD smP), some (rD skP), some TLD, some TLD, some (.int a), some (sqD), some (baD), some (.list [tD (0, 0)]), none, none, none, none, none, none, none, none, none, x20, x21, none, none, none, none, none, none]) := rfl
def astep (A : List Ce) (k : Nat) : List Ce := A ++ ([(1 + ((k : Nat) : Int), 0), (-(1 + ((k : Nat) : Int)), 0), (0, 1 + ((k : Nat) : Int)), (0, -(1 + ((k : Nat) : Int)))] : List Ce)
theorem arms_is : (List.range 14).foldl astep [(0, 0)] = arms := by decide +kernel
theorem rng2_ok : rngD2 [.int 1, .int 15] = some ((List.range 14).map fun k => .int (1 + (k : Nat))) := by
  have h1 : -(2 ^ 62) ≤ (1 : Int) := by omega
  have h2 : (1 : Int) < 2 ^ 62 := by omega
  have h3 : -(2 ^ 62) ≤ (15 : Int) := by omega
  have h4 : (15 : Int) < 2 ^ 62 := by omega
  simp only [rngD2, h1, h2, h3, h4, and_self, if_true]
  rfl
end WL

set_option Elab.async false
set_option linter.all false
set_option maxRecDepth 100000
set_option maxHeartbeats 4000000
namespace WL
open PySem PySem.Spec PyProof.Rows L2 HotX L2H LamX TL Pc
local macro_rules | `(tactic| walk_at "ev") => `(tactic| try simp [bodyM, sSeq, sIf, sSet, sSetO, sRet, sRetO, sRetS, sRetN, sApp, sPop, sDrop, sRaise, sUnp, sPar, sNext, oLst, oCall, oBin, oRep, vOf, aNil, aCons, eTup, eC, eVar, eOwn, vCall, vUn, vBin, vAn, vOrr, vNo, vIf, vChain, tOf, tTru, tNo, tAn, tOrr, ioGet, List.replicate, eCall, oCallF, chkN, z_call1, z_call2, z_call3, z_io1, z_io2, z_io3, vSl, pNone, pSome, eIdx, sizeLine_eq, wipeE, backE])
abbrev arB : DS := sSet 10 (vBin gAdd (eVar 10) (vOf (oLst (aCons (eTup (aCons (eVar 11) (aCons (eC (.int 0)) (aNil)))) (aCons (eTup (aCons (vUn gNeg (eVar 11)) (aCons (eC (.int 0)) (aNil)))) (aCons (eTup (aCons (eC (.int 0)) (aCons (eVar 11) (aNil)))) (aCons (eTup (aCons (eC (.int 0)) (aCons (vUn gNeg (eVar 11)) (aNil)))) (aNil))))))))
theorem ar_step (sc cup : D) (x2 x20 x21 : Option D) (sqD baD : D) (a : Int) (AA : List D) (kk : Int) (h : AA.length ≤ 1000) : arB [some sc, some cup, x2, some (rD smP), some (rD skP), some TLD, some TLD, some (.int a), some sqD, some baD, some (.list AA), some (.int kk), none, none, none, none, none, none, none, none, x20, x21, none, none, none, none, none, none] = .ok (.nx, [some sc, some cup, x2, some (rD smP), some (rD skP), some TLD, some TLD, some (.int a), some sqD, some baD, some (.list (AA ++ [.tuple [.int kk, .int 0], .tuple [.int (-kk), .int 0], .tuple [.int 0, .int kk], .tuple [.int 0, .int (-kk)]])), some (.int kk), none, none, none, none, none, none, none, none, x20, x21, none, none, none, none, none, none]) := by
  refine set_ok (ev1 := [some sc, some cup, x2, some (rD smP), some (rD skP), some TLD, some TLD, some (.int a), some sqD, some baD, some (.list AA), some (.int kk), none, none, none, none, none, none, none, none, x20, x21, none, none, none, none, none, none]) ?_
  have v10 : eVar 10 [some sc, some cup, x2, some (rD smP), some (rD skP), some TLD, some TLD, some (.int a), some sqD, some baD, some (.list AA), some (.int kk), none, none, none, none, none, none, none, none, x20, x21, none, none, none, none, none, none] = .ok (.val (.list AA), [some sc, some cup, x2, some (rD smP), some (rD skP), some TLD, some TLD, some (.int a), some sqD, some baD, some (.list AA), some (.int kk), none, none, none, none, none, none, none, none, x20, x21, none, none, none, none, none, none]) := rfl
  have v11 : eVar 11 [some sc, some cup, x2, some (rD smP), some (rD skP), some TLD, some TLD, some (.int a), some sqD, some baD, some (.list AA), some (.int kk), none, none, none, none, none, none, none, none, x20, x21, none, none, none, none, none, none] = .ok (.val (.int kk), [some sc, some cup, x2, some (rD smP), some (rD skP), some TLD, some TLD, some (.int a), some sqD, some baD, some (.list AA), some (.int kk), none, none, none, none, none, none, none, none, x20, x21, none, none, none, none, none, none]) := rfl
  generalize [some sc, some cup, x2, some (rD smP), some (rD skP), some TLD, some TLD, some (.int a), some sqD, some baD, some (.list AA), some (.int kk), none, none, none, none, none, none, none, none, x20, x21, none, none, none, none, none, none] = ev at v10 v11 ⊢
  have ng : vUn gNeg (eVar 11) ev = .ok (.val (.int (-kk)), ev) := by unfold vUn; rw [v11]; rfl
  have z0 : eC (.int 0) ev = .ok (.val (.int 0), ev) := rfl
  have tp : ∀ (m n : DE) (x y : D), m ev = .ok (.val x, ev) → n ev = .ok (.val y, ev) → eTup (aCons m (aCons n aNil)) ev = .ok (.val (.tuple [x, y]), ev) := fun m n x y h1 h2 => by
    unfold eTup
    rw [aCons_ok h1 (aCons_ok h2 (aNil_ok ev))]
    simp [sizeLine_eq]
  have la := lst_ok (vs := [.tuple [.int kk, .int 0], .tuple [.int (-kk), .int 0], .tuple [.int 0, .int kk], .tuple [.int 0, .int (-kk)]]) (aCons_ok (tp _ _ _ _ v11 z0) (aCons_ok (tp _ _ _ _ ng z0) (aCons_ok (tp _ _ _ _ z0 v11) (aCons_ok (tp _ _ _ _ z0 ng) (aNil_ok ev))))) (by simp)
  unfold vBin
  rw [v10]
  simp only [Res.bind_ok]
  rw [la]
  simp only [Res.bind_ok, z_get_val, lift_some]
  rw [z_add_l, if_pos (by rw [sizeLine_eq]; simp; omega)]
  rfl
theorem s9_ok (sc cup : D) (x2 x20 x21 : Option D) (sqD baD : D) (a : Int) : ∃ x11, g9 [some sc, some cup, x2, some (rD smP), some (rD skP), some TLD, some TLD, some (.int a), some (sqD), some (baD), some (.list [tD (0, 0)]), none, none, none, none, none, none, none, none, none, x20, x21, none, none, none, none, none, none] = .ok (.nx, [some sc, some cup, x2, some (rD smP), some (rD skP), some TLD, some TLD, some (.int a), some (sqD), some (baD), some (.list (arms.map tD)), x11, none, none, none, none, none, none, none, none, x20, x21, none, none, none, none, none, none]) := by
  have hit : TL.iRng2 (aCons (eC (.int 1)) (aCons (eC (.int 15)) (aNil))) [some sc, some cup, x2, some (rD smP), some (rD skP), some TLD, some TLD, some (.int a), some (sqD), some (baD), some (.list [tD (0, 0)]), none, none, none, none, none, none, none, none, none, x20, x21, none, none, none, none, none, none] = .ok ((List.range 14).map fun k => .int (1 + (k : Nat)), [some sc, some cup, x2, some (rD smP), some (rD skP), some TLD, some TLD, some (.int a), some (sqD), some (baD), some (.list [tD (0, 0)]), none, none, none, none, none, none, none, none, none, x20, x21, none, none, none, none, none, none]) := by
    generalize [some sc, some cup, x2, some (rD smP), some (rD skP), some TLD, some TLD, some (.int a), some (sqD), some (baD), some (.list [tD (0, 0)]), none, none, none, none, none, none, none, none, none, x20, x21, none, none, none, none, none, none] = ev
    have ha : aCons (eC (.int 1)) (aCons (eC (.int 15)) (aNil)) ev = .ok ([.val (.int 1), .val (.int 15)], ev) := rfl
    have hg : gets [.val (.int 1), .val (.int 15)] ev = some [.int 1, .int 15] := rfl
    have h2 := rng2_ok
    unfold TL.iRng2
    rw [ha]
    simp only [Res.bind_ok]
    rw [hg]
    simp only [lift_some, Res.bind_ok]
    rw [h2]
    rfl
  have key : ∀ (xs : List Nat), xs.length ≤ 14 → ∃ x11, forL (bName 11) arB (xs.map fun k => .int (1 + (k : Nat))) [some sc, some cup, x2, some (rD smP), some (rD skP), some TLD, some TLD, some (.int a), some sqD, some baD, some (.list ([((0 : Int), (0 : Int))].map tD)), none, none, none, none, none, none, none, none, none, x20, x21, none, none, none, none, none, none] = .ok (.nx, [some sc, some cup, x2, some (rD smP), some (rD skP), some TLD, some TLD, some (.int a), some sqD, some baD, some (.list ((xs.foldl astep [(0, 0)]).map tD)), x11, none, none, none, none, none, none, none, none, x20, x21, none, none, none, none, none, none]) := fun xs hx => by
    obtain ⟨ev', e1, x11, rfl, _⟩ := forL_ix (b := bName 11) (body := arB) (enc := fun k : Nat => .int (1 + (k : Nat))) astep (fun n A ev => ∃ x11, ev = [some sc, some cup, x2, some (rD smP), some (rD skP), some TLD, some TLD, some (.int a), some sqD, some baD, some (.list (A.map tD)), x11, none, none, none, none, none, none, none, none, x20, x21, none, none, none, none, none, none] ∧ A.length ≤ 4 * n + 1) (xs := xs) 0 (s := [(0, 0)]) (ev := [some sc, some cup, x2, some (rD smP), some (rD skP), some TLD, some TLD, some (.int a), some sqD, some baD, some (.list ([((0 : Int), (0 : Int))].map tD)), none, none, none, none, none, none, none, none, none, x20, x21, none, none, none, none, none, none]) (fun i k hk A ev hI => by
      obtain ⟨x11, rfl, hl⟩ := hI
      have hi : i < xs.length := (List.getElem?_eq_some_iff.mp hk).1
      have h4 : (astep A k).map tD = A.map tD ++ [.tuple [.int (1 + (k : Nat)), .int 0], .tuple [.int (-(1 + (k : Nat))), .int 0], .tuple [.int 0, .int (1 + (k : Nat))], .tuple [.int 0, .int (-(1 + (k : Nat)))]] := by simp [astep, tD]
      have hlen : (A.map tD).length ≤ 1000 := by rw [List.length_map]; omega
      refine ⟨[some sc, some cup, x2, some (rD smP), some (rD skP), some TLD, some TLD, some (.int a), some sqD, some baD, some (.list (A.map tD)), some (.int (1 + (k : Nat))), none, none, none, none, none, none, none, none, x20, x21, none, none, none, none, none, none], [some sc, some cup, x2, some (rD smP), some (rD skP), some TLD, some TLD, some (.int a), some sqD, some baD, some (.list ((astep A k).map tD)), some (.int (1 + (k : Nat))), none, none, none, none, none, none, none, none, x20, x21, none, none, none, none, none, none], .nx, ?_, ?_, .inl rfl, _, rfl, by simp [astep]; omega⟩
      · generalize A.map tD = AA
        rfl
      · rw [h4]
        exact ar_step sc cup x2 x20 x21 sqD baD a (A.map tD) (1 + ((k : Nat) : Int)) hlen) ⟨_, rfl, by simp⟩
    exact ⟨x11, e1⟩
  obtain ⟨x11, e1⟩ := key (List.range 14) (by simp)
  rw [arms_is] at e1
  exact ⟨x11, (sFor_of hit).trans e1⟩
end WL

set_option Elab.async false
set_option linter.all false
set_option maxRecDepth 100000
set_option maxHeartbeats 4000000
namespace WL
open PySem PySem.Spec PyProof.Rows L2 HotX L2H LamX TL Pc
local macro_rules | `(tactic| walk_at "ev") => `(tactic| try simp [bodyM, sSeq, sIf, sSet, sSetO, sRet, sRetO, sRetS, sRetN, sApp, sPop, sDrop, sRaise, sUnp, sPar, sNext, oLst, oCall, oBin, oRep, vOf, aNil, aCons, eTup, eC, eVar, eOwn, vCall, vUn, vBin, vAn, vOrr, vNo, vIf, vChain, tOf, tTru, tNo, tAn, tOrr, ioGet, List.replicate, eCall, oCallF, chkN, z_call1, z_call2, z_call3, z_io1, z_io2, z_io3, vSl, pNone, pSome, eIdx, sizeLine_eq, wipeE, backE])
theorem s10_ok (sc cup : D) (x2 x20 x21 : Option D) (sqD baD : D) (a : Int) (x11 : Option D) : g10 [some sc, some cup, x2, some (rD smP), some (rD skP), some TLD, some TLD, some (.int a), some (sqD), some (baD), some (.list (arms.map tD)), x11, none, none, none, none, none, none, none, none, x20, x21, none, none, none, none, none, none] = .ok (.nx, [some sc, some cup, x2, some (rD smP), some (rD skP), some TLD, some TLD, some (.int a), some (sqD), some (baD), some (.list (arms.map tD)), x11, some (.list ((srt wheel).map tD)), none, none, none, none, none, none, none, x20, x21, none, none, none, none, none, none]) := by
  refine set_ok (ev1 := [some sc, some cup, x2, some (rD smP), some (rD skP), some TLD, some TLD, some (.int a), some (sqD), some (baD), some (.list (arms.map tD)), x11, none, none, none, none, none, none, none, none, x20, x21, none, none, none, none, none, none]) ?_
  generalize [some sc, some cup, x2, some (rD smP), some (rD skP), some TLD, some TLD, some (.int a), some (sqD), some (baD), some (.list (arms.map tD)), x11, none, none, none, none, none, none, none, none, x20, x21, none, none, none, none, none, none] = ev
  have la : vOf (oLst (aCons (eTup (aCons (eC (.int 0)) (aCons (eC (.int 0)) (aNil)))) (aCons (eTup (aCons (eC (.int 1)) (aCons (eC (.int 0)) (aNil)))) (aCons (eTup (aCons (eC (.int 1)) (aCons (eC (.int 1)) (aNil)))) (aCons (eTup (aCons (eC (.int 0)) (aCons (eC (.int 1)) (aNil)))) (aCons (eTup (aCons (eC (.int 2)) (aCons (eC (.int 0)) (aNil)))) (aCons (eTup (aCons (eC (.int 1)) (aCons (eC (.int 2)) (aNil)))) (aCons (eTup (aCons (vUn gNeg (eC (.int 1))) (aCons (eC (.int 1)) (aNil)))) (aCons (eTup (aCons (eC (.int 0)) (aCons (vUn gNeg (eC (.int 1))) (aNil)))) (aNil)))))))))) ev = .ok (.val (.list (wheel.map tD)), ev) := rfl
  have s := sorted_ce wheel
  unfold vOf oCall
  unfold vOf at la
  rw [aCons_ok la (aNil_ok ev)]
  simp only [Res.bind_ok, z_gets_cons, z_gets_nil, z_get_val, Option.bind_some, lift_some]
  rw [s]
  rfl
end WL

set_option Elab.async false
set_option linter.all false
set_option maxRecDepth 100000
set_option maxHeartbeats 4000000
namespace WL
open PySem PySem.Spec PyProof.Rows L2 HotX L2H LamX TL Pc
local macro_rules | `(tactic| walk_at "ev") => `(tactic| try simp [bodyM, sSeq, sIf, sSet, sSetO, sRet, sRetO, sRetS, sRetN, sApp, sPop, sDrop, sRaise, sUnp, sPar, sNext, oLst, oCall, oBin, oRep, vOf, aNil, aCons, eTup, eC, eVar, eOwn, vCall, vUn, vBin, vAn, vOrr, vNo, vIf, vChain, tOf, tTru, tNo, tAn, tOrr, ioGet, List.replicate, eCall, oCallF, chkN, z_call1, z_call2, z_call3, z_io1, z_io2, z_io3, vSl, pNone, pSome, eIdx, sizeLine_eq, wipeE, backE])
theorem s11_ok (sc cup : D) (x2 x20 x21 : Option D) (sqD baD : D) (arD whD : D) (a : Int) (x11 : Option D) : g11 [some sc, some cup, x2, some (rD smP), some (rD skP), some TLD, some TLD, some (.int a), some sqD, some baD, some arD, x11, some whD, none, none, none, none, none, none, none, x20, x21, none, none, none, none, none, none] = .ok (.nx, [some sc, some cup, x2, some (rD smP), some (rD skP), some TLD, some TLD, some (.int a), some sqD, some baD, some arD, x11, some whD, some (rD hook), none, none, none, none, none, none, x20, x21, none, none, none, none, none, none]) := by
  have c : oComp (iRng1 (aCons (eC (.int 59)) (aNil))) [26] (bName 26) (tYesD) (eTup (aCons (eC (.int 0)) (aCons (eVar 26) (aNil)))) [some sc, some cup, x2, some (rD smP), some (rD skP), some TLD, some TLD, some (.int a), some sqD, some baD, some arD, x11, some whD, none, none, none, none, none, none, none, x20, x21, none, none, none, none, none, none] = .ok (.list (((List.range 59).map fun i => ((0 : Int), ((i : Nat) : Int))).map tD), [some sc, some cup, x2, some (rD smP), some (rD skP), some TLD, some TLD, some (.int a), some sqD, some baD, some arD, x11, some whD, none, none, none, none, none, none, none, x20, x21, none, none, none, none, none, none]) := by
    rw [oComp_map (enc := fun i : Nat => .int (i : Nat)) (f := fun i => tD (0, (i : Nat))) (xs := List.range 59) rng59 (by rw [sizeLine_eq]; simp) (fun i _ => ⟨[some sc, some cup, x2, some (rD smP), some (rD skP), some TLD, some TLD, some (.int a), some sqD, some baD, some arD, x11, some whD, none, none, none, none, none, none, none, x20, x21, none, none, none, none, some (.int (i : Nat)), none], rfl, rfl, rfl⟩) rfl, List.map_map]
    rfl
  refine set_ok (ev1 := [some sc, some cup, x2, some (rD smP), some (rD skP), some TLD, some TLD, some (.int a), some sqD, some baD, some arD, x11, some whD, none, none, none, none, none, none, none, x20, x21, none, none, none, none, none, none]) ?_
  generalize [some sc, some cup, x2, some (rD smP), some (rD skP), some TLD, some TLD, some (.int a), some sqD, some baD, some arD, x11, some whD, none, none, none, none, none, none, none, x20, x21, none, none, none, none, none, none] = ev at c ⊢
  have la : vOf (oLst (aCons (eTup (aCons (eC (.int 1)) (aCons (eC (.int 0)) (aNil)))) (aNil))) ev = .ok (.val (.list [tD (1, 0)]), ev) := rfl
  have ga : gAdd (.list (((List.range 59).map fun i => ((0 : Int), ((i : Nat) : Int))).map tD)) (.list [tD (1, 0)]) = some (.list (hook.map tD)) := by
    rw [z_add_l, if_pos (by rw [sizeLine_eq]; simp)]
    unfold hook
    rw [List.map_append]
    rfl
  generalize ((List.range 59).map fun i => ((0 : Int), ((i : Nat) : Int))).map tD = X at c ga
  have b : vBin gAdd (vOf (oComp (iRng1 (aCons (eC (.int 59)) (aNil))) [26] (bName 26) (tYesD) (eTup (aCons (eC (.int 0)) (aCons (eVar 26) (aNil)))))) (vOf (oLst (aCons (eTup (aCons (eC (.int 1)) (aCons (eC (.int 0)) (aNil)))) (aNil)))) ev = .ok (.val (.list (hook.map tD)), ev) := by
    unfold vBin
    have c' : vOf (oComp (iRng1 (aCons (eC (.int 59)) (aNil))) [26] (bName 26) (tYesD) (eTup (aCons (eC (.int 0)) (aCons (eVar 26) (aNil))))) ev = .ok (.val (.list X), ev) := by unfold vOf; rw [c]; rfl
    rw [c']
    simp only [Res.bind_ok]
    rw [la]
    simp only [Res.bind_ok, z_get_val, lift_some]
    rw [ga]
    rfl
  unfold vCall
  rw [aCons_ok b (aNil_ok ev)]
  rfl
end WL

set_option Elab.async false
set_option linter.all false
set_option maxRecDepth 100000
set_option maxHeartbeats 4000000
namespace WL
open PySem PySem.Spec PyProof.Rows L2 HotX L2H LamX TL Pc
local macro_rules | `(tactic| walk_at "ev") => `(tactic| try simp [bodyM, sSeq, sIf, sSet, sSetO, sRet, sRetO, sRetS, sRetN, sApp, sPop, sDrop, sRaise, sUnp, sPar, sNext, oLst, oCall, oBin, oRep, vOf, aNil, aCons, eTup, eC, eVar, eOwn, vCall, vUn, vBin, vAn, vOrr, vNo, vIf, vChain, tOf, tTru, tNo, tAn, tOrr, ioGet, List.replicate, eCall, oCallF, chkN, z_call1, z_call2, z_call3, z_io1, z_io2, z_io3, vSl, pNone, pSome, eIdx, sizeLine_eq, wipeE, backE])
theorem v_stairs : f__law_stairs.m [.int 60] = .ok (rD (srt stairs), .none) := by
  have c : oComp (iRng1 (aCons (eVar 0) (aNil))) [1] (bName 1) (tYesD) (eTup (aCons (vBin gFdiv (vCall gInt (aCons (vBin gAdd (eVar 1) (eC (.int 1))) (aNil))) (eC (.int 2))) (aCons (vBin gFdiv (vCall gInt (aCons (eVar 1) (aNil))) (eC (.int 2))) (aNil)))) [some (.int 60), none] = .ok (.list (stairs.map tD), [some (.int 60), none]) := by
    rw [oComp_map (enc := fun i : Nat => .int (i : Nat)) (f := fun i => tD (((i + 1) / 2 : Nat), (i / 2 : Nat))) (xs := List.range 60) (iRng1_ok (n := 60) rfl (by decide)) (by rw [sizeLine_eq]; simp) (fun i _ => by
      refine ⟨[some (.int 60), some (.int (i : Nat))], rfl, ?_, rfl⟩
      have h1 : gFdiv (.int (((i : Nat) : Int) + 1)) (.int 2) = some (.int (((i + 1) / 2 : Nat) : Int)) := by rw [z_fdiv (by decide) (by decide), fd2']
      have h2 : gFdiv (.int ((i : Nat) : Int)) (.int 2) = some (.int ((i / 2 : Nat) : Int)) := by rw [z_fdiv (by decide) (by decide), fd2]
      have h3 : tD (((i + 1) / 2 : Nat), (i / 2 : Nat)) = .tuple [.int (((i + 1) / 2 : Nat) : Int), .int ((i / 2 : Nat) : Int)] := rfl
      rw [h3]
      generalize (((i + 1) / 2 : Nat) : Int) = u at h1
      generalize ((i / 2 : Nat) : Int) = v at h2
      walk_at "ev"
      rw [h1]
      walk_at "ev"
      rw [h2]
      walk_at "ev") rfl]
    unfold stairs
    rw [List.map_map]
    rfl
  have s := sorted_ce stairs
  have r : rD (srt stairs) = .tuple ((srt stairs).map tD) := rfl
  rw [r]
  generalize (srt stairs).map tD = X1 at s
  generalize stairs.map tD = X0 at c s
  unfold f__law_stairs m__law_stairs
  generalize iRng1 (aCons (eVar 0) (aNil)) = I at c ⊢
  walk_at "ev"
  rw [c]
  walk_at "ev"
  rw [s]
  walk_at "ev"
end WL

set_option Elab.async false
set_option linter.all false
set_option maxRecDepth 100000
set_option maxHeartbeats 4000000
namespace WL
open PySem PySem.Spec PyProof.Rows L2 HotX L2H LamX TL Pc
local macro_rules | `(tactic| walk_at "ev") => `(tactic| try simp [bodyM, sSeq, sIf, sSet, sSetO, sRet, sRetO, sRetS, sRetN, sApp, sPop, sDrop, sRaise, sUnp, sPar, sNext, oLst, oCall, oBin, oRep, vOf, aNil, aCons, eTup, eC, eVar, eOwn, vCall, vUn, vBin, vAn, vOrr, vNo, vIf, vChain, tOf, tTru, tNo, tAn, tOrr, ioGet, List.replicate, eCall, oCallF, chkN, z_call1, z_call2, z_call3, z_io1, z_io2, z_io3, vSl, pNone, pSome, eIdx, sizeLine_eq, wipeE, backE])
def ROWS (a : Int) : List (List Ce × Nat) := [(srt (square.map (sh (a, 0))), 8), (bar.map (sh (0, a)), 4), (srt arms, 8), (srt wheel, 4), (srt stairs, 2), (hook, 1), ([(a, a)], 8)]
def encR (x : List Ce × Nat) : D := .tuple [rD x.1, .int (x.2 : Nat)]
theorem rows_good (a : Int) (h : -20 ≤ a ∧ a < 20) : ∀ x ∈ ROWS a, Grt x := by
  intro x hx
  simp only [ROWS, List.mem_cons, List.not_mem_nil, or_false] at hx
  rcases hx with rfl | rfl | rfl | rfl | rfl | rfl | rfl
  · exact grt_srt gd_square sy_square (a, 0) ⟨h.1, h.2, (by show (-20 : Int) ≤ 0; decide), (by show (0 : Int) < 20; decide)⟩
  · have g := grt_srt gd_bar sy_bar (0, a) ⟨(by show (-20 : Int) ≤ 0; decide), (by show (0 : Int) < 20; decide), h.1, h.2⟩
    rwa [srt_id (srt_sh (0, a) srt_bar)] at g
  · exact grt_srt0 gd_arms sy_arms
  · exact grt_srt0 gd_wheel sy_wheel
  · exact grt_srt0 gd_stairs sy_stairs
  · have g := grt_srt0 gd_hook sy_hook
    rwa [srt_id srt_hook] at g
  · have g := grt_srt gd_dot sy_dot (a, a) ⟨h.1, h.2, h.1, h.2⟩
    have e : [((0 : Int), (0 : Int))].map (sh (a, a)) = [(a, a)] := by simp [sh]
    rw [e] at g
    exact g
end WL

set_option Elab.async false
set_option linter.all false
set_option maxRecDepth 100000
set_option maxHeartbeats 4000000
namespace WL
open PySem PySem.Spec PyProof.Rows L2 HotX L2H LamX TL Pc
local macro_rules | `(tactic| walk_at "ev") => `(tactic| try simp [bodyM, sSeq, sIf, sSet, sSetO, sRet, sRetO, sRetS, sRetN, sApp, sPop, sDrop, sRaise, sUnp, sPar, sNext, oLst, oCall, oBin, oRep, vOf, aNil, aCons, eTup, eC, eVar, eOwn, vCall, vUn, vBin, vAn, vOrr, vNo, vIf, vChain, tOf, tTru, tNo, tAn, tOrr, ioGet, List.replicate, eCall, oCallF, chkN, z_call1, z_call2, z_call3, z_io1, z_io2, z_io3, vSl, pNone, pSome, eIdx, sizeLine_eq, wipeE, backE])
abbrev g13 : DS := sFor (iSeq (eVar 14)) (bTup 2 (bCons (bName 15) (bCons (bName 16) (bNil)))) (sIf (tOrr (tOf (vBin gNe (vCall gLen (aCons (eCall f_symmetries (chkN f_symmetries.np (aCons (eVar 15) (aNil)))) (aNil))) (eVar 16))) (tNo (tTru (eCall f__law_right (chkN f__law_right.np (aCons (eOwn 1) (aCons (eVar 15) (aNil)))))))) (sRet (eC (.bool false))) (sNext))
theorem s13_ok (s0 s2 s3 s4 s5 s6 s7 s8 s9 s10 s11 s12 s13 s15 s16 s17 s18 s19 s20 s21 s22 s23 s24 s25 s26 s27 : Option D) (cup : D) (xs : List (List Ce × Nat)) (hc : Cup cup) (hx : ∀ x ∈ xs, Grt x) : ∃ cup' s15' s16', g13 [s0, some cup, s2, s3, s4, s5, s6, s7, s8, s9, s10, s11, s12, s13, some (.list (xs.map encR)), s15, s16, s17, s18, s19, s20, s21, s22, s23, s24, s25, s26, s27] = .ok (.nx, [s0, some cup', s2, s3, s4, s5, s6, s7, s8, s9, s10, s11, s12, s13, some (.list (xs.map encR)), s15', s16', s17, s18, s19, s20, s21, s22, s23, s24, s25, s26, s27]) ∧ Cup cup' := by
  have hit : iSeq (eVar 14) [s0, some cup, s2, s3, s4, s5, s6, s7, s8, s9, s10, s11, s12, s13, some (.list (xs.map encR)), s15, s16, s17, s18, s19, s20, s21, s22, s23, s24, s25, s26, s27] = .ok (xs.map encR, [s0, some cup, s2, s3, s4, s5, s6, s7, s8, s9, s10, s11, s12, s13, some (.list (xs.map encR)), s15, s16, s17, s18, s19, s20, s21, s22, s23, s24, s25, s26, s27]) := rfl
  generalize hS : some (PyData.list (xs.map encR)) = s14 at hit ⊢
  obtain ⟨ev', e1, cup', s15', s16', rfl, hc'⟩ := forL_inv (b := bTup 2 (bCons (bName 15) (bCons (bName 16) (bNil)))) (body := rwB) (enc := encR) (fun (_ : Unit) _ => ()) (fun _ ev => ∃ cup' s15' s16', ev = [s0, some cup', s2, s3, s4, s5, s6, s7, s8, s9, s10, s11, s12, s13, s14, s15', s16', s17, s18, s19, s20, s21, s22, s23, s24, s25, s26, s27] ∧ Cup cup') (xs := xs) (s := ()) (ev := [s0, some cup, s2, s3, s4, s5, s6, s7, s8, s9, s10, s11, s12, s13, s14, s15, s16, s17, s18, s19, s20, s21, s22, s23, s24, s25, s26, s27]) (fun x hx2 _ ev hI => by
    obtain ⟨cup', s15', s16', rfl, hc'⟩ := hI
    obtain ⟨cup2, q1, q2⟩ := rw_step [s0, some cup', s2, s3, s4, s5, s6, s7, s8, s9, s10, s11, s12, s13, s14, some (rD x.1), some (.int (x.2 : Nat)), s17, s18, s19, s20, s21, s22, s23, s24, s25, s26, s27] cup' x hc' (hx x hx2) rfl rfl rfl
    exact ⟨[s0, some cup', s2, s3, s4, s5, s6, s7, s8, s9, s10, s11, s12, s13, s14, some (rD x.1), some (.int (x.2 : Nat)), s17, s18, s19, s20, s21, s22, s23, s24, s25, s26, s27], _, .nx, rfl, q1, .inl rfl, cup2, _, _, rfl, q2⟩) ⟨cup, s15, s16, rfl, hc⟩
  exact ⟨cup', s15', s16', (sFor_of hit).trans e1, hc'⟩
end WL

set_option Elab.async false
set_option linter.all false
set_option maxRecDepth 100000
set_option maxHeartbeats 4000000
namespace WL
open PySem PySem.Spec PyProof.Rows L2 HotX L2H LamX TL Pc
local macro_rules | `(tactic| walk_at "ev") => `(tactic| try simp [bodyM, sSeq, sIf, sSet, sSetO, sRet, sRetO, sRetS, sRetN, sApp, sPop, sDrop, sRaise, sUnp, sPar, sNext, oLst, oCall, oBin, oRep, vOf, aNil, aCons, eTup, eC, eVar, eOwn, vCall, vUn, vBin, vAn, vOrr, vNo, vIf, vChain, tOf, tTru, tNo, tAn, tOrr, ioGet, List.replicate, eCall, oCallF, chkN, z_call1, z_call2, z_call3, z_io1, z_io2, z_io3, vSl, pNone, pSome, eIdx, sizeLine_eq, wipeE, backE])
abbrev g12 : DS := sSet 14 (vOf (oLst (aCons (eTup (aCons (eVar 8) (aCons (eC (.int 8)) (aNil)))) (aCons (eTup (aCons (eVar 9) (aCons (eC (.int 4)) (aNil)))) (aCons (eTup (aCons (vCall gTuple (aCons (vOf (oCall gSorted (aCons (eVar 10) (aNil)))) (aNil))) (aCons (eC (.int 8)) (aNil)))) (aCons (eTup (aCons (vCall gTuple (aCons (eVar 12) (aNil))) (aCons (eC (.int 4)) (aNil)))) (aCons (eTup (aCons (eCall f__law_stairs (chkN f__law_stairs.np (aCons (eC (.int 60)) (aNil)))) (aCons (eC (.int 2)) (aNil)))) (aCons (eTup (aCons (eVar 13) (aCons (eC (.int 1)) (aNil)))) (aCons (eTup (aCons (eTup (aCons (eTup (aCons (eVar 7) (aCons (eVar 7) (aNil)))) (aNil))) (aCons (eC (.int 8)) (aNil)))) (aNil))))))))))
theorem s12_g (ev : Ev) (a : Int) (d8 d9 d13 dst : D) (A W : List Ce) (hst : f__law_stairs.m [.int 60] = .ok (dst, .none)) (h7 : (ev[7]?).join = some (.int a)) (h8 : (ev[8]?).join = some d8) (h9 : (ev[9]?).join = some d9) (h10 : (ev[10]?).join = some (.list (A.map tD))) (h12 : (ev[12]?).join = some (.list (W.map tD))) (h13 : (ev[13]?).join = some d13) : g12 ev = .ok (.nx, ev.set 14 (some (.list [.tuple [d8, .int 8], .tuple [d9, .int 4], .tuple [rD (srt A), .int 8], .tuple [rD W, .int 4], .tuple [dst, .int 2], .tuple [d13, .int 1], .tuple [rD [(a, a)], .int 8]]))) := by
  have ev_ : ∀ {i : Nat} {d : D}, (ev[i]?).join = some d → eVar i ev = .ok (.val d, ev) := fun h => by unfold eVar; rw [h]; rfl
  have tp : ∀ (m : DE) (x y : D), m ev = .ok (.val x, ev) → eTup (aCons m (aCons (eC y) aNil)) ev = .ok (.val (.tuple [x, y]), ev) := fun m x y h1 => by
    unfold eTup
    rw [aCons_ok h1 (aCons_ok (show eC y ev = .ok (.val y, ev) from rfl) (aNil_ok ev))]
    simp [sizeLine_eq]
  have m10 : vCall gTuple (aCons (vOf (oCall gSorted (aCons (eVar 10) (aNil)))) (aNil)) ev = .ok (.val (rD (srt A)), ev) := by
    have s : vOf (oCall gSorted (aCons (eVar 10) (aNil))) ev = .ok (.val (.list ((srt A).map tD)), ev) := by
      unfold vOf oCall
      rw [aCons_ok (ev_ h10) (aNil_ok ev)]
      simp only [Res.bind_ok, z_gets_cons, z_gets_nil, z_get_val, Option.bind_some, lift_some]
      rw [sorted_ce]
      rfl
    unfold vCall
    rw [aCons_ok s (aNil_ok ev)]
    rfl
  have m12 : vCall gTuple (aCons (eVar 12) (aNil)) ev = .ok (.val (rD W), ev) := by
    unfold vCall
    rw [aCons_ok (ev_ h12) (aNil_ok ev)]
    rfl
  have mst := call1_ok (f := f__law_stairs) rfl rfl (show eC (.int 60) ev = .ok (.val (.int 60), ev) from rfl) hst
  have mdt : eTup (aCons (eTup (aCons (eVar 7) (aCons (eVar 7) (aNil)))) (aNil)) ev = .ok (.val (rD [(a, a)]), ev) := by
    have q : eTup (aCons (eVar 7) (aCons (eVar 7) (aNil))) ev = .ok (.val (tD (a, a)), ev) := by
      unfold eTup
      rw [aCons_ok (ev_ h7) (aCons_ok (ev_ h7) (aNil_ok ev))]
      simp [sizeLine_eq, tD]
    generalize eTup (aCons (eVar 7) (aCons (eVar 7) (aNil))) = M at q ⊢
    unfold eTup
    rw [aCons_ok q (aNil_ok ev)]
    simp [sizeLine_eq, rD]
  have l := lst_ok (vs := [.tuple [d8, .int 8], .tuple [d9, .int 4], .tuple [rD (srt A), .int 8], .tuple [rD W, .int 4], .tuple [dst, .int 2], .tuple [d13, .int 1], .tuple [rD [(a, a)], .int 8]]) (aCons_ok (tp _ _ (.int 8) (ev_ h8)) (aCons_ok (tp _ _ (.int 4) (ev_ h9)) (aCons_ok (tp _ _ (.int 8) m10) (aCons_ok (tp _ _ (.int 4) m12) (aCons_ok (tp _ _ (.int 2) mst) (aCons_ok (tp _ _ (.int 1) (ev_ h13)) (aCons_ok (tp _ _ (.int 8) mdt) (aNil_ok ev)))))))) (by simp)
  exact set_ok l
theorem rows_enc (a : Int) : [.tuple [rD (srt (square.map (sh (a, 0)))), .int 8], .tuple [rD (bar.map (sh (0, a))), .int 4], .tuple [rD (srt arms), .int 8], .tuple [rD (srt wheel), .int 4], .tuple [rD (srt stairs), .int 2], .tuple [rD hook, .int 1], .tuple [rD [(a, a)], .int 8]] = (ROWS a).map encR := by
  simp only [ROWS, List.map_cons, List.map_nil, encR]
  generalize rD (srt (square.map (sh (a, 0)))) = x1
  generalize rD (bar.map (sh (0, a))) = x2
  generalize rD (srt arms) = x3
  generalize rD (srt wheel) = x4
  generalize rD (srt stairs) = x5
  generalize rD hook = x6
  rfl
end WL

set_option Elab.async false
set_option linter.all false
set_option maxRecDepth 100000
set_option maxHeartbeats 4000000
namespace WL
open PySem PySem.Spec PyProof.Rows L2 HotX L2H LamX TL Pc
local macro_rules | `(tactic| walk_at "ev") => `(tactic| try simp [bodyM, sSeq, sIf, sSet, sSetO, sRet, sRetO, sRetS, sRetN, sApp, sPop, sDrop, sRaise, sUnp, sPar, sNext, oLst, oCall, oBin, oRep, vOf, aNil, aCons, eTup, eC, eVar, eOwn, vCall, vUn, vBin, vAn, vOrr, vNo, vIf, vChain, tOf, tTru, tNo, tAn, tOrr, ioGet, List.replicate, eCall, oCallF, chkN, z_call1, z_call2, z_call3, z_io1, z_io2, z_io3, vSl, pNone, pSome, eIdx, sizeLine_eq, wipeE, backE])
def ODDS : List D := [.none, .tuple [], .list [tD (0, 0)], rD [(0, 0), (1, 1)], rD [(0, 1), (0, 0)], rD [(0, 0), (0, 2)], .tuple [.tuple [.bool true, .int 0]]]
theorem odds_bad : ∀ d ∈ ODDS, bad d := by
  intro d hd
  simp only [ODDS, List.mem_cons, List.not_mem_nil, or_false] at hd
  rcases hd with rfl | rfl | rfl | rfl | rfl | rfl | rfl
  · exact b_none
  · exact b_nil
  · exact b_list
  · exact b_far
  · exact b_desc
  · exact b_far2
  · exact b_bool
theorem fails_err {own : Nat → Bool} {dflt : Str} {mb : DE} {ev : Ev} (h : mb (wipeO own ev) = .err "InvalidPiece") : eFails own dflt wd mb ev = .ok (.val (.str "piece error"), ev) := by
  unfold eFails
  rw [h]
  rfl
theorem call1_err {f : FnS} {m : DE} {ev : Ev} {a : D} {c : Str} (h : f.io = none) (hn : f.np = 1) (hm : m ev = .ok (.val a, ev)) (hf : f.m [a] = .err c) : eCall f (chkN f.np (aCons m aNil)) ev = .err c := by
  unfold eCall chkN
  rw [aCons_ok hm (aNil_ok ev)]
  simp only [Res.bind_ok]
  rw [if_pos (by rw [hn]; rfl)]
  simp only [Res.bind_ok]
  rw [z_call1 h, hf]
  rfl
theorem call2_err {f : FnS} {m n : DE} {ev : Ev} {a b : D} {c : Str} (h : f.io = none) (hn : f.np = 2) (hm : m ev = .ok (.val a, ev)) (hm2 : n ev = .ok (.val b, ev)) (hf : f.m [a, b] = .err c) : eCall f (chkN f.np (aCons m (aCons n aNil))) ev = .err c := by
  unfold eCall chkN
  rw [aCons_ok hm (aCons_ok hm2 (aNil_ok ev))]
  simp only [Res.bind_ok]
  rw [if_pos (by rw [hn]; rfl)]
  simp only [Res.bind_ok]
  rw [z_call2 h, hf]
  rfl
theorem callv_err {g : FnS} {m : DE} {ev : Ev} {y : Str} {a : D} {c : Str} (hy : (ev[27]?).join = some (fnD y)) (ht : tbl_law y = some g) (hr : g.ro = false) (h : g.io = none) (hn : g.np = 1) (hm : m ev = .ok (.val a, ev)) (hf : g.m [a] = .err c) : eCallV 27 tbl_law (aCons m aNil) ev = .err c := by
  unfold eCallV
  rw [hy]
  have e : ((some (fnD y)).bind fnOfD).bind tbl_law = some g := ht
  rw [e]
  simp only [lift_some, Res.bind_ok]
  rw [if_pos hr]
  exact call1_err h hn hm hf
theorem tb1 : tbl_law "placed" = some f_placed := by unfold tbl_law; rw [if_pos rfl]
theorem tb2 : tbl_law "turned" = some f_turned := by unfold tbl_law; rw [if_neg (by decide +kernel), if_pos rfl]
theorem tb3 : tbl_law "mirrored" = some f_mirrored := by unfold tbl_law; rw [if_neg (by decide +kernel), if_neg (by decide +kernel), if_pos rfl]
theorem tb4 : tbl_law "least_form" = some f_least_form := by unfold tbl_law; rw [if_neg (by decide +kernel), if_neg (by decide +kernel), if_neg (by decide +kernel), if_pos rfl]
theorem tb5 : tbl_law "symmetries" = some f_symmetries := by unfold tbl_law; rw [if_neg (by decide +kernel), if_neg (by decide +kernel), if_neg (by decide +kernel), if_neg (by decide +kernel), if_pos rfl]
theorem it5 (ev : Ev) : iSeq (eTup (aCons (eC (fnD "placed")) (aCons (eC (fnD "turned")) (aCons (eC (fnD "mirrored")) (aCons (eC (fnD "least_form")) (aCons (eC (fnD "symmetries")) (aNil))))))) ev = .ok ([fnD "placed", fnD "turned", fnD "mirrored", fnD "least_form", fnD "symmetries"], ev) := by
  generalize fnD "placed" = a
  generalize fnD "turned" = b
  generalize fnD "mirrored" = c
  generalize fnD "least_form" = d
  generalize fnD "symmetries" = e
  unfold iSeq
  walk_at "ev"
abbrev erB : DS := sSeq (sSetO 18 (oBin gCat (eOwn 18) (vOf (oComp (iSeq (eTup (aCons (eC (fnD "placed")) (aCons (eC (fnD "turned")) (aCons (eC (fnD "mirrored")) (aCons (eC (fnD "least_form")) (aCons (eC (fnD "symmetries")) (aNil)))))))) [27] (bName 27) (tYesD) (eFails (S_law []).own "" wd (eCallV 27 tbl_law (aCons (eVar 19) (aNil)))))))) (sSeq (sApp 18 (eFails (S_law []).own "" wd (eCall f_are_alike (chkN f_are_alike.np (aCons (eVar 19) (aCons (eVar 3) (aNil))))))) (sApp 18 (eFails (S_law []).own "" wd (eCall f_are_alike (chkN f_are_alike.np (aCons (eVar 3) (aCons (eVar 19) (aNil))))))))
theorem er_compG {M : DE} {ev : Ev} (xs : List Str) (d : D) (hit : iSeq M ev = .ok (xs.map fnD, ev)) (hn : xs.length ≤ 100) (h27 : ev[27]? = some none) (h19 : ∀ o, ((ev.set 27 o)[19]?).join = some d) (hl : ev.length = 28) (hd : ∀ o, wipeO (S_law []).own (ev.set 27 o) = ((ev.set 1 none).set 18 none).set 27 o) (h19' : ∀ o, ((((ev.set 1 none).set 18 none).set 27 o)[19]?).join = some d)
    (key : ∀ y ∈ xs, ∃ g, tbl_law y = some g ∧ g.ro = false ∧ g.io = none ∧ g.np = 1 ∧ g.m [d] = .err "InvalidPiece") : oComp (iSeq M) [27] (bName 27) (tYesD) (eFails (S_law []).own "" wd (eCallV 27 tbl_law (aCons (eVar 19) (aNil)))) ev = .ok (.list (xs.map fun _ => (.str "piece error")), ev) := by
  have w0 : wipeE ev [27] = ev := by
    have : wipeE ev [27] = ev.set 27 none := rfl
    rw [this]
    apply List.ext_getElem?
    intro n
    rw [List.getElem?_set]
    split
    · rename_i e
      subst e
      rw [h27]
      simp [hl]
    · rfl
  refine oComp_map (enc := fun y : Str => fnD y) (f := fun _ => (.str "piece error")) (xs := xs) hit (by rw [sizeLine_eq]; omega) (fun y hy => ?_) ?_
  · obtain ⟨g, k1, k2, k3, k4, k5⟩ := key y hy
    rw [w0]
    refine ⟨ev.set 27 (some (fnD y)), rfl, ?_, ?_⟩
    · refine fails_err (callv_err (y := y) (g := g) (a := d) ?_ k1 k2 k3 k4 ?_ k5)
      · rw [hd]
        simp [hl]
      · unfold eVar
        rw [hd, h19']
        rfl
    · have : wipeE (ev.set 27 (some (fnD y))) [27] = (ev.set 27 (some (fnD y))).set 27 none := rfl
      rw [this, List.set_set]
      exact w0
  · rw [w0]
    show ev.set 27 (ev[27]?).join = ev
    rw [h27]
    exact w0
theorem cat_l {xs ys : List D} (h : xs.length + ys.length ≤ 16777216) : gCat (.list xs) (.list ys) = some (.list (xs ++ ys)) := by
  unfold gCat
  simp [h, sizeLine_eq]
theorem app_ok {ev : Ev} {i : Nat} {m : DE} {d : D} {ds : List D} (h1 : (ev[i]?).join = some (.list ds)) (hm : m ev = .ok (.val d, ev)) (hl : ds.length < 1000) : sApp i m ev = .ok (.nx, ev.set i (some (.list (ds ++ [d])))) := by
  unfold sApp
  rw [h1]
  simp only [Option.bind_some, z_lstOf, lift_some, Res.bind_ok]
  rw [hm]
  simp only [Res.bind_ok, z_toVal]
  rw [h1]
  simp only [Option.bind_some, z_lstOf, lift_some, Res.bind_ok]
  rw [if_pos (by rw [sizeLine_eq]; omega)]
end WL

set_option Elab.async false
set_option linter.all false
set_option maxRecDepth 100000
set_option maxHeartbeats 4000000
namespace WL
open PySem PySem.Spec PyProof.Rows L2 HotX L2H LamX TL Pc
local macro_rules | `(tactic| walk_at "ev") => `(tactic| try simp [bodyM, sSeq, sIf, sSet, sSetO, sRet, sRetO, sRetS, sRetN, sApp, sPop, sDrop, sRaise, sUnp, sPar, sNext, oLst, oCall, oBin, oRep, vOf, aNil, aCons, eTup, eC, eVar, eOwn, vCall, vUn, vBin, vAn, vOrr, vNo, vIf, vChain, tOf, tTru, tNo, tAn, tOrr, ioGet, List.replicate, eCall, oCallF, chkN, z_call1, z_call2, z_call3, z_io1, z_io2, z_io3, vSl, pNone, pSome, eIdx, sizeLine_eq, wipeE, backE])
theorem tb_all {d : D} (hb : bad d) : ∀ y ∈ (["placed", "turned", "mirrored", "least_form", "symmetries"] : List Str), ∃ g, tbl_law y = some g ∧ g.ro = false ∧ g.io = none ∧ g.np = 1 ∧ g.m [d] = .err "InvalidPiece" := by
  intro y hy
  rcases List.mem_cons.mp hy with h | hy
  · rw [h]; exact ⟨f_placed, tb1, rfl, rfl, rfl, r1 hb⟩
  rcases List.mem_cons.mp hy with h | hy
  · rw [h]; exact ⟨f_turned, tb2, rfl, rfl, rfl, r2 hb⟩
  rcases List.mem_cons.mp hy with h | hy
  · rw [h]; exact ⟨f_mirrored, tb3, rfl, rfl, rfl, r3 hb⟩
  rcases List.mem_cons.mp hy with h | hy
  · rw [h]; exact ⟨f_least_form, tb4, rfl, rfl, rfl, r4 hb⟩
  rcases List.mem_cons.mp hy with h | hy
  · rw [h]; exact ⟨f_symmetries, tb5, rfl, rfl, rfl, r5 hb⟩
  simp at hy
end WL

set_option Elab.async false
set_option linter.all false
set_option maxRecDepth 100000
set_option maxHeartbeats 4000000
namespace WL
open PySem PySem.Spec PyProof.Rows L2 HotX L2H LamX TL Pc
local macro_rules | `(tactic| walk_at "ev") => `(tactic| try simp [bodyM, sSeq, sIf, sSet, sSetO, sRet, sRetO, sRetS, sRetN, sApp, sPop, sDrop, sRaise, sUnp, sPar, sNext, oLst, oCall, oBin, oRep, vOf, aNil, aCons, eTup, eC, eVar, eOwn, vCall, vUn, vBin, vAn, vOrr, vNo, vIf, vChain, tOf, tTru, tNo, tAn, tOrr, ioGet, List.replicate, eCall, oCallF, chkN, z_call1, z_call2, z_call3, z_io1, z_io2, z_io3, vSl, pNone, pSome, eIdx, sizeLine_eq, wipeE, backE])
theorem er_comp (s0 s1 s2 s4 s5 s6 s7 s8 s9 s10 s11 s12 s13 s14 s15 s16 s17 s20 s21 s22 s23 s24 s25 s26 : Option D) (WS : List D) (d : D) (hb : bad d) (tba : ∀ y ∈ (["placed", "turned", "mirrored", "least_form", "symmetries"] : List Str), ∃ g, tbl_law y = some g ∧ g.ro = false ∧ g.io = none ∧ g.np = 1 ∧ g.m [d] = .err "InvalidPiece") : oComp (iSeq (eTup (aCons (eC (fnD "placed")) (aCons (eC (fnD "turned")) (aCons (eC (fnD "mirrored")) (aCons (eC (fnD "least_form")) (aCons (eC (fnD "symmetries")) (aNil)))))))) [27] (bName 27) (tYesD) (eFails (S_law []).own "" wd (eCallV 27 tbl_law (aCons (eVar 19) (aNil)))) [s0, s1, s2, some (rD smP), s4, s5, s6, s7, s8, s9, s10, s11, s12, s13, s14, s15, s16, s17, some (.list WS), some d, s20, s21, s22, s23, s24, s25, s26, none] = .ok (.list (List.replicate 5 (.str "piece error")), [s0, s1, s2, some (rD smP), s4, s5, s6, s7, s8, s9, s10, s11, s12, s13, s14, s15, s16, s17, some (.list WS), some d, s20, s21, s22, s23, s24, s25, s26, none]) :=
  by
  have h1 : ∀ ev : Ev, iSeq (eTup (aCons (eC (fnD "placed")) (aCons (eC (fnD "turned")) (aCons (eC (fnD "mirrored")) (aCons (eC (fnD "least_form")) (aCons (eC (fnD "symmetries")) (aNil))))))) ev = .ok ((["placed", "turned", "mirrored", "least_form", "symmetries"] : List Str).map fnD, ev) := fun ev => by
    simp only [List.map_cons, List.map_nil]
    exact it5 ev
  have h5 : (["placed", "turned", "mirrored", "least_form", "symmetries"] : List Str).length = 5 := rfl
  have hm : (["placed", "turned", "mirrored", "least_form", "symmetries"] : List Str).map (fun _ => (PyData.str "piece error" : D)) = List.replicate 5 (PyData.str "piece error") := by
    simp only [List.map_cons, List.map_nil]
    rfl
  rw [← hm]
  generalize (["placed", "turned", "mirrored", "least_form", "symmetries"] : List Str) = xs at h1 h5 tba ⊢
  generalize (eTup (aCons (eC (fnD "placed")) (aCons (eC (fnD "turned")) (aCons (eC (fnD "mirrored")) (aCons (eC (fnD "least_form")) (aCons (eC (fnD "symmetries")) (aNil))))))) = M at h1 ⊢
  exact er_compG xs d (h1 _) (by omega) rfl (fun _ => rfl) rfl (fun _ => by simp [wipeO, List.zipIdx, List.mapIdx, List.mapIdx.go]) (fun _ => rfl) tba
end WL

set_option Elab.async false
set_option linter.all false
set_option maxRecDepth 100000
set_option maxHeartbeats 4000000
namespace WL
open PySem PySem.Spec PyProof.Rows L2 HotX L2H LamX TL Pc
local macro_rules | `(tactic| walk_at "ev") => `(tactic| try simp [bodyM, sSeq, sIf, sSet, sSetO, sRet, sRetO, sRetS, sRetN, sApp, sPop, sDrop, sRaise, sUnp, sPar, sNext, oLst, oCall, oBin, oRep, vOf, aNil, aCons, eTup, eC, eVar, eOwn, vCall, vUn, vBin, vAn, vOrr, vNo, vIf, vChain, tOf, tTru, tNo, tAn, tOrr, ioGet, List.replicate, eCall, oCallF, chkN, z_call1, z_call2, z_call3, z_io1, z_io2, z_io3, vSl, pNone, pSome, eIdx, sizeLine_eq, wipeE, backE])
theorem wipeO_at {own : Nat → Bool} {ev : Ev} {i : Nat} (h : own i = false) : ((wipeO own ev)[i]?).join = (ev[i]?).join := by
  unfold wipeO
  rw [List.getElem?_mapIdx]
  cases ev[i]? with
  | none => rfl
  | some o => simp [h]
theorem evar_w {own : Nat → Bool} {ev : Ev} {i : Nat} {d : D} (h : own i = false) (h2 : (ev[i]?).join = some d) : eVar i (wipeO own ev) = .ok (.val d, wipeO own ev) := by
  unfold eVar
  rw [wipeO_at h, h2]
  rfl
theorem er_stepG {C : DO} {ev : Ev} {WS : List D} {d : D} (hb : bad d) (hl : ev.length = 28) (hW : WS.length ≤ 100) (h18 : (ev[18]?).join = some (.list WS)) (h19 : (ev[19]?).join = some d) (h3 : (ev[3]?).join = some (rD smP)) (hC : C ev = .ok (.list (List.replicate 5 (PyData.str "piece error")), ev)) :
    (sSeq (sSetO 18 (oBin gCat (eOwn 18) (vOf C))) (sSeq (sApp 18 (eFails (S_law []).own "" wd (eCall f_are_alike (chkN f_are_alike.np (aCons (eVar 19) (aCons (eVar 3) (aNil))))))) (sApp 18 (eFails (S_law []).own "" wd (eCall f_are_alike (chkN f_are_alike.np (aCons (eVar 3) (aCons (eVar 19) (aNil)))))))) : DS) ev = .ok (.nx, ev.set 18 (some (.list (WS ++ List.replicate 7 (PyData.str "piece error"))))) := by
  have at18 : ∀ o : Option D, (ev.set 18 o)[18]? = some o := fun o => by rw [List.getElem?_set_self (by omega)]
  have at19 : ∀ o : Option D, (((ev.set 18 o)[19]?).join) = some d := fun o => by rw [List.getElem?_set_ne (by decide)]; exact h19
  have at3 : ∀ o : Option D, (((ev.set 18 o)[3]?).join) = some (rD smP) := fun o => by rw [List.getElem?_set_ne (by decide)]; exact h3
  have s1 : (sSetO 18 (oBin gCat (eOwn 18) (vOf C)) : DS) ev = .ok (.nx, ev.set 18 (some (.list (WS ++ List.replicate 5 (PyData.str "piece error"))))) := by
    have c' : vOf C ev = .ok (.val (.list (List.replicate 5 (PyData.str "piece error"))), ev) := by unfold vOf; rw [hC]; rfl
    have e18 : eOwn 18 ev = .ok (.slot 18, ev) := by unfold eOwn; rw [h18]; rfl
    unfold sSetO oBin
    rw [e18]
    simp only [Res.bind_ok]
    rw [c']
    simp only [Res.bind_ok, z_get_val, z_get_slot, h18, lift_some]
    rw [cat_l (by simp; omega)]
    rfl
  have s2 : ∀ WS' : List D, WS'.length ≤ 110 → (sApp 18 (eFails (S_law []).own "" wd (eCall f_are_alike (chkN f_are_alike.np (aCons (eVar 19) (aCons (eVar 3) (aNil)))))) : DS) (ev.set 18 (some (.list WS'))) = .ok (.nx, ev.set 18 (some (.list (WS' ++ [(PyData.str "piece error")])))) := fun WS' hW' => by
    have q := app_ok (i := 18) (ev := ev.set 18 (some (.list WS'))) (ds := WS') (by rw [at18]; rfl) (fails_err (own := (S_law []).own) (dflt := "") (call2_err (f := f_are_alike) (a := d) (b := rD smP) rfl rfl (evar_w rfl (at19 _)) (evar_w rfl (at3 _)) (r6 _ hb))) (by omega)
    rw [List.set_set] at q
    exact q
  have s3 : ∀ WS' : List D, WS'.length ≤ 110 → (sApp 18 (eFails (S_law []).own "" wd (eCall f_are_alike (chkN f_are_alike.np (aCons (eVar 3) (aCons (eVar 19) (aNil)))))) : DS) (ev.set 18 (some (.list WS'))) = .ok (.nx, ev.set 18 (some (.list (WS' ++ [(PyData.str "piece error")])))) := fun WS' hW' => by
    have q := app_ok (i := 18) (ev := ev.set 18 (some (.list WS'))) (ds := WS') (by rw [at18]; rfl) (fails_err (own := (S_law []).own) (dflt := "") (call2_err (f := f_are_alike) (a := rD smP) (b := d) rfl rfl (evar_w rfl (at3 _)) (evar_w rfl (at19 _)) (r7 smP pc_sm hb))) (by omega)
    rw [List.set_set] at q
    exact q
  have e7 : (WS ++ List.replicate 5 (PyData.str "piece error")) ++ [(PyData.str "piece error")] ++ [(PyData.str "piece error")] = WS ++ List.replicate 7 (PyData.str "piece error") := by rw [List.append_assoc, List.append_assoc]; rfl
  have z := (seq_nx (s2 := _) s1).trans ((seq_nx (s2 := _) (s2 _ (by simp; omega))).trans (s3 _ (by simp; omega)))
  rw [e7] at z
  exact z
end WL

set_option Elab.async false
set_option linter.all false
set_option maxRecDepth 100000
set_option maxHeartbeats 4000000
namespace WL
open PySem PySem.Spec PyProof.Rows L2 HotX L2H LamX TL Pc
local macro_rules | `(tactic| walk_at "ev") => `(tactic| try simp [bodyM, sSeq, sIf, sSet, sSetO, sRet, sRetO, sRetS, sRetN, sApp, sPop, sDrop, sRaise, sUnp, sPar, sNext, oLst, oCall, oBin, oRep, vOf, aNil, aCons, eTup, eC, eVar, eOwn, vCall, vUn, vBin, vAn, vOrr, vNo, vIf, vChain, tOf, tTru, tNo, tAn, tOrr, ioGet, List.replicate, eCall, oCallF, chkN, z_call1, z_call2, z_call3, z_io1, z_io2, z_io3, vSl, pNone, pSome, eIdx, sizeLine_eq, wipeE, backE])
abbrev M5 : DE := eTup (aCons (eC (fnD "placed")) (aCons (eC (fnD "turned")) (aCons (eC (fnD "mirrored")) (aCons (eC (fnD "least_form")) (aCons (eC (fnD "symmetries")) (aNil))))))
abbrev C5 : DO := oComp (iSeq M5) [27] (bName 27) (tYesD) (eFails (S_law []).own "" wd (eCallV 27 tbl_law (aCons (eVar 19) (aNil))))
theorem er_compV {M : DE} {ev : Ev} (xs : List Str) (d : D) (hit : iSeq M ev = .ok (xs.map fnD, ev)) (hn : xs.length ≤ 100) (h27 : ev[27]? = some none) (h19 : (ev[19]?).join = some d) (hl : ev.length = 28)
    (key : ∀ y ∈ xs, ∃ g, tbl_law y = some g ∧ g.ro = false ∧ g.io = none ∧ g.np = 1 ∧ g.m [d] = .err "InvalidPiece") : oComp (iSeq M) [27] (bName 27) (tYesD) (eFails (S_law []).own "" wd (eCallV 27 tbl_law (aCons (eVar 19) (aNil)))) ev = .ok (.list (xs.map fun _ => (PyData.str "piece error")), ev) := by
  have w0 : wipeE ev [27] = ev := by
    have : wipeE ev [27] = ev.set 27 none := rfl
    rw [this]
    apply List.ext_getElem?
    intro n
    rw [List.getElem?_set]
    split
    · rename_i e
      subst e
      rw [h27]
      simp [hl]
    · rfl
  refine oComp_map (enc := fun y : Str => fnD y) (f := fun _ => (PyData.str "piece error")) (xs := xs) hit (by rw [sizeLine_eq]; omega) (fun y hy => ?_) ?_
  · obtain ⟨g, k1, k2, k3, k4, k5⟩ := key y hy
    rw [w0]
    refine ⟨ev.set 27 (some (fnD y)), rfl, ?_, ?_⟩
    · refine fails_err (callv_err (y := y) (g := g) (a := d) ?_ k1 k2 k3 k4 (evar_w rfl ?_) k5)
      · rw [wipeO_at rfl, List.getElem?_set_self (by omega)]
        rfl
      · rw [List.getElem?_set_ne (by decide)]
        exact h19
    · have : wipeE (ev.set 27 (some (fnD y))) [27] = (ev.set 27 (some (fnD y))).set 27 none := rfl
      rw [this, List.set_set]
      exact w0
  · rw [w0]
    show ev.set 27 (ev[27]?).join = ev
    rw [h27]
    exact w0
theorem c5_ok {ev : Ev} (d : D) (hb : bad d) (h27 : ev[27]? = some none) (h19 : (ev[19]?).join = some d) (hl : ev.length = 28) : C5 ev = .ok (.list (List.replicate 5 (PyData.str "piece error")), ev) := by
  have h1 : iSeq M5 ev = .ok ((["placed", "turned", "mirrored", "least_form", "symmetries"] : List Str).map fnD, ev) := by
    simp only [List.map_cons, List.map_nil]
    exact it5 ev
  have h5 : (["placed", "turned", "mirrored", "least_form", "symmetries"] : List Str).length = 5 := rfl
  have hm : (["placed", "turned", "mirrored", "least_form", "symmetries"] : List Str).map (fun _ => (PyData.str "piece error")) = List.replicate 5 (PyData.str "piece error") := by
    simp only [List.map_cons, List.map_nil]
    rfl
  have ta := tb_all hb
  rw [← hm]
  generalize (["placed", "turned", "mirrored", "least_form", "symmetries"] : List Str) = xs at h1 h5 ta ⊢
  exact er_compV xs d h1 (by omega) h27 h19 hl ta
abbrev g14 : DS := sSet 17 (vOf (oLst (aCons (eC .none) (aCons (eTup (aNil)) (aCons (vOf (oLst (aCons (eTup (aCons (eC (.int 0)) (aCons (eC (.int 0)) (aNil)))) (aNil)))) (aCons (eTup (aCons (eTup (aCons (eC (.int 0)) (aCons (eC (.int 0)) (aNil)))) (aCons (eTup (aCons (eC (.int 1)) (aCons (eC (.int 1)) (aNil)))) (aNil)))) (aCons (eTup (aCons (eTup (aCons (eC (.int 0)) (aCons (eC (.int 1)) (aNil)))) (aCons (eTup (aCons (eC (.int 0)) (aCons (eC (.int 0)) (aNil)))) (aNil)))) (aCons (eTup (aCons (eTup (aCons (eC (.int 0)) (aCons (eC (.int 0)) (aNil)))) (aCons (eTup (aCons (eC (.int 0)) (aCons (eC (.int 2)) (aNil)))) (aNil)))) (aCons (eTup (aCons (eTup (aCons (eC (.bool true)) (aCons (eC (.int 0)) (aNil)))) (aNil))) (aNil))))))))))
abbrev g15 : DS := sSetO 18 (oLst (aNil))
abbrev g16 : DS := sFor (iSeq (eVar 17)) (bName 19) (sSeq (sSetO 18 (oBin gCat (eOwn 18) (vOf (oComp (iSeq (eTup (aCons (eC (fnD "placed")) (aCons (eC (fnD "turned")) (aCons (eC (fnD "mirrored")) (aCons (eC (fnD "least_form")) (aCons (eC (fnD "symmetries")) (aNil)))))))) [27] (bName 27) (tYesD) (eFails (S_law []).own "" wd (eCallV 27 tbl_law (aCons (eVar 19) (aNil)))))))) (sSeq (sApp 18 (eFails (S_law []).own "" wd (eCall f_are_alike (chkN f_are_alike.np (aCons (eVar 19) (aCons (eVar 3) (aNil))))))) (sApp 18 (eFails (S_law []).own "" wd (eCall f_are_alike (chkN f_are_alike.np (aCons (eVar 3) (aCons (eVar 19) (aNil)))))))))
abbrev g17 : DS := sRet (vBin gEq (eOwn 18) (vOf (oRep 49 (oLst (aCons (eC (.str "piece error")) (aNil))))))
end WL

set_option Elab.async false
set_option linter.all false
set_option maxRecDepth 100000
set_option maxHeartbeats 4000000
namespace WL
open PySem PySem.Spec PyProof.Rows L2 HotX L2H LamX TL Pc
local macro_rules | `(tactic| walk_at "ev") => `(tactic| try simp [bodyM, sSeq, sIf, sSet, sSetO, sRet, sRetO, sRetS, sRetN, sApp, sPop, sDrop, sRaise, sUnp, sPar, sNext, oLst, oCall, oBin, oRep, vOf, aNil, aCons, eTup, eC, eVar, eOwn, vCall, vUn, vBin, vAn, vOrr, vNo, vIf, vChain, tOf, tTru, tNo, tAn, tOrr, ioGet, List.replicate, eCall, oCallF, chkN, z_call1, z_call2, z_call3, z_io1, z_io2, z_io3, vSl, pNone, pSome, eIdx, sizeLine_eq, wipeE, backE])
theorem s14_ok (ev : Ev) : g14 ev = .ok (.nx, ev.set 17 (some (.list ODDS))) := by
  refine set_ok (ev1 := ev) ?_
  have tn : eTup aNil ev = .ok (.val (.tuple []), ev) := rfl
  have tt : ∀ (m n : DE) (x y : D), m ev = .ok (.val x, ev) → n ev = .ok (.val y, ev) → eTup (aCons m (aCons n aNil)) ev = .ok (.val (.tuple [x, y]), ev) := fun m n x y h1 h2 => by
    unfold eTup
    rw [aCons_ok h1 (aCons_ok h2 (aNil_ok ev))]
    simp [sizeLine_eq]
  have t1 : ∀ (m : DE) (x : D), m ev = .ok (.val x, ev) → eTup (aCons m aNil) ev = .ok (.val (.tuple [x]), ev) := fun m x h1 => by
    unfold eTup
    rw [aCons_ok h1 (aNil_ok ev)]
    simp [sizeLine_eq]
  have ce : ∀ i j : Int, eTup (aCons (eC (.int i)) (aCons (eC (.int j)) aNil)) ev = .ok (.val (tD (i, j)), ev) := fun i j => tt _ _ _ _ rfl rfl
  have cb : eTup (aCons (eC (.bool true)) (aCons (eC (.int 0)) aNil)) ev = .ok (.val (.tuple [.bool true, .int 0]), ev) := tt _ _ _ _ rfl rfl
  have l1 := lst_ok (vs := [tD (0, 0)]) (aCons_ok (ce 0 0) (aNil_ok ev)) (by simp)
  exact lst_ok (vs := [.none, .tuple [], .list [tD (0, 0)], .tuple [tD (0, 0), tD (1, 1)], .tuple [tD (0, 1), tD (0, 0)], .tuple [tD (0, 0), tD (0, 2)], .tuple [.tuple [.bool true, .int 0]]])
    (aCons_ok (show eC .none ev = .ok (.val .none, ev) from rfl) (aCons_ok tn (aCons_ok l1 (aCons_ok (tt _ _ _ _ (ce 0 0) (ce 1 1)) (aCons_ok (tt _ _ _ _ (ce 0 1) (ce 0 0)) (aCons_ok (tt _ _ _ _ (ce 0 0) (ce 0 2)) (aCons_ok (t1 _ _ cb) (aNil_ok ev)))))))) (by simp)
theorem words49 : gEq (.list (List.replicate 49 (PyData.str "piece error"))) (.list (List.replicate 49 (PyData.str "piece error"))) = some (.bool true) := by
  generalize ("piece error" : Str) = s
  have hp : ∀ n, PyData.plainAll (List.replicate n (PyData.str s)) = true ∧ PyData.depthAll (List.replicate n (PyData.str s)) = 0 ∧ PyData.eqvAll (List.replicate n (PyData.str s)) (List.replicate n (PyData.str s)) = true := fun n => by
    induction n with
    | zero => exact ⟨rfl, rfl, rfl⟩
    | succ n ih =>
      rw [List.replicate_succ]
      refine ⟨?_, ?_, ?_⟩
      · show ((PyData.str s).plain && PyData.plainAll (List.replicate n (PyData.str s))) = true
        rw [ih.1]; rfl
      · simp only [PyData.depthAll, PyData.depth, ih.2.1]; rfl
      · simp [PyData.eqvAll, PyData.eqv, ih.2.2]
  obtain ⟨h1, h2, h3⟩ := hp 49
  generalize List.replicate 49 (PyData.str s) = X at h1 h2 h3
  have ho : okD (.list X) = true := by
    unfold okD
    rw [Bool.and_eq_true]
    exact ⟨h1, decide_eq_true (by show PyData.depthAll X + 1 ≤ 60; omega)⟩
  unfold gEq
  rw [ho]
  simp only [Bool.and_self, if_true]
  rw [show PyData.eqv (.list X) (.list X) = PyData.eqvAll X X from rfl, h3]
def wstep (s : List D) (_ : D) : List D := s ++ List.replicate 7 (PyData.str "piece error")
theorem wfold : ∀ (n : Nat) (ds : List D) (k : Nat), ds.length = n → ds.foldl wstep (List.replicate k (PyData.str "piece error")) = List.replicate (k + 7 * n) (PyData.str "piece error")
  | 0, ds, k, h => by rw [List.length_eq_zero_iff.mp h]; rfl
  | n + 1, [], k, h => by simp at h
  | n + 1, d :: ds, k, h => by
    rw [List.foldl_cons]
    unfold wstep
    rw [List.replicate_append_replicate]
    have := wfold n ds (k + 7) (by simpa using h)
    unfold wstep at this
    rw [this]
    congr 1
    omega
theorem s16_ok (ev : Ev) (hl : ev.length = 28) (h17 : (ev[17]?).join = some (.list ODDS)) (h3 : (ev[3]?).join = some (rD smP)) (h27 : ev[27]? = some none) (h18 : ev[18]? = some (some (.list []))) : ∃ o, g16 ev = .ok (.nx, (ev.set 19 o).set 18 (some (.list (List.replicate 49 (PyData.str "piece error"))))) := by
  have hit : iSeq (eVar 17) ev = .ok (ODDS, ev) := by
    have e : eVar 17 ev = .ok (.val (.list ODDS), ev) := by unfold eVar; rw [h17]; rfl
    unfold iSeq
    rw [e]
    rfl
  have e0 : ev = (ev.set 19 ((ev[19]?).join)).set 18 (some (.list [])) := by
    apply List.ext_getElem?
    intro n
    rw [List.getElem?_set]
    split
    · rename_i e; subst e; rw [h18]; simp [hl]
    · rw [List.getElem?_set]
      split
      · rename_i e; subst e
        have : ∃ z, ev[19]? = some z := ⟨_, List.getElem?_eq_getElem (by omega)⟩
        obtain ⟨z, hz⟩ := this
        rw [hz]; simp [hl]
      · rfl
  obtain ⟨ev', e1, o, rfl, _⟩ := forL_ix (b := bName 19) (body := sSeq (sSetO 18 (oBin gCat (eOwn 18) (vOf (oComp (iSeq (eTup (aCons (eC (fnD "placed")) (aCons (eC (fnD "turned")) (aCons (eC (fnD "mirrored")) (aCons (eC (fnD "least_form")) (aCons (eC (fnD "symmetries")) (aNil)))))))) [27] (bName 27) (tYesD) (eFails (S_law []).own "" wd (eCallV 27 tbl_law (aCons (eVar 19) (aNil)))))))) (sSeq (sApp 18 (eFails (S_law []).own "" wd (eCall f_are_alike (chkN f_are_alike.np (aCons (eVar 19) (aCons (eVar 3) (aNil))))))) (sApp 18 (eFails (S_law []).own "" wd (eCall f_are_alike (chkN f_are_alike.np (aCons (eVar 3) (aCons (eVar 19) (aNil))))))))) (enc := id) wstep (fun n s ev' => ∃ o, ev' = (ev.set 19 o).set 18 (some (.list s)) ∧ s.length ≤ 7 * n) (xs := ODDS) 0 (s := []) (ev := ev) (fun i d hd s ev' hI => by
    obtain ⟨o, rfl, hs⟩ := hI
    have hi : i < 7 := (List.getElem?_eq_some_iff.mp hd).1
    have hb := odds_bad d (List.mem_of_getElem? hd)
    have eb : ((ev.set 19 o).set 18 (some (.list s))).set 19 (some d) = (ev.set 19 (some d)).set 18 (some (.list s)) := by
      rw [List.set_comm _ _ (by decide : (18 : Nat) ≠ 19), List.set_set]
    generalize hE : (ev.set 19 (some d)).set 18 (some (.list s)) = E at eb
    have k18 : (E[18]?).join = some (.list s) := by rw [← hE, List.getElem?_set_self (by simp; omega)]; rfl
    have k19 : (E[19]?).join = some d := by rw [← hE, List.getElem?_set_ne (by decide), List.getElem?_set_self (by omega)]; rfl
    have k3 : (E[3]?).join = some (rD smP) := by rw [← hE, List.getElem?_set_ne (by decide), List.getElem?_set_ne (by decide)]; exact h3
    have k27 : E[27]? = some none := by rw [← hE, List.getElem?_set_ne (by decide), List.getElem?_set_ne (by decide)]; exact h27
    have kl : E.length = 28 := by rw [← hE]; simp [hl]
    have st := er_stepG hb kl (by omega) k18 k19 k3 (c5_ok d hb k27 k19 kl)
    refine ⟨E, E.set 18 (some (.list (wstep s d))), .nx, ?_, st, .inl rfl, some d, ?_, ?_⟩
    · show some (((ev.set 19 o).set 18 (some (.list s))).set 19 (some d)) = some E
      rw [eb]
    · rw [← hE, List.set_set]
    · show (s ++ List.replicate 7 (PyData.str "piece error")).length ≤ _
      rw [List.length_append, List.length_replicate]
      omega) ⟨_, e0, by simp⟩
  have wf := wfold 7 ODDS 0 rfl
  have wf : ODDS.foldl wstep [] = List.replicate 49 (PyData.str "piece error") := wf
  rw [wf, List.map_id] at e1
  exact ⟨o, (sFor_of hit).trans e1⟩
theorem s17_ok (ev : Ev) (h18 : (ev[18]?).join = some (.list (List.replicate 49 (PyData.str "piece error")))) : g17 ev = .ok (.rt (.bool true), ev) := by
  have e18 : eOwn 18 ev = .ok (.slot 18, ev) := by unfold eOwn; rw [h18]; rfl
  have l1 : oLst (aCons (eC (PyData.str "piece error")) aNil) ev = .ok (.list [(PyData.str "piece error")], ev) := rfl
  have r : vOf (oRep 49 (oLst (aCons (eC (PyData.str "piece error")) aNil))) ev = .ok (.val (.list (List.replicate 49 (PyData.str "piece error"))), ev) := by
    unfold vOf oRep
    rw [l1]
    simp only [Res.bind_ok, z_lstOf, lift_some]
    rw [if_pos ⟨by omega, by omega, by rw [sizeLine_eq]; decide⟩]
    simp only [Res.bind_ok]
    rw [show (List.replicate (49 : Int).toNat [(PyData.str "piece error")]).flatten = List.replicate 49 (PyData.str "piece error") from by rw [show (49 : Int).toNat = 49 from rfl, List.flatten_replicate_singleton]]
  have w := words49
  unfold g17 sRet vBin
  rw [e18]
  simp only [Res.bind_ok]
  rw [r]
  simp only [Res.bind_ok, z_get_slot, z_get_val, h18, lift_some]
  rw [w]
  rfl
end WL

set_option Elab.async false
set_option linter.all false
set_option maxRecDepth 100000
set_option maxHeartbeats 4000000
namespace WL
open PySem PySem.Spec PyProof.Rows L2 HotX L2H LamX TL Pc
local macro_rules | `(tactic| walk_at "ev") => `(tactic| try simp [bodyM, sSeq, sIf, sSet, sSetO, sRet, sRetO, sRetS, sRetN, sApp, sPop, sDrop, sRaise, sUnp, sPar, sNext, oLst, oCall, oBin, oRep, vOf, aNil, aCons, eTup, eC, eVar, eOwn, vCall, vUn, vBin, vAn, vOrr, vNo, vIf, vChain, tOf, tTru, tNo, tAn, tOrr, ioGet, List.replicate, eCall, oCallF, chkN, z_call1, z_call2, z_call3, z_io1, z_io2, z_io3, vSl, pNone, pSome, eIdx, sizeLine_eq, wipeE, backE])
theorem b1_loop (sc cup : D) (hc : Cup cup) : ∃ cup' y2 y6 y20 y21, (sFor (TL.iRng1 (aCons (eC (.int 4)) (aNil))) (bName 2) b1B : DS) (Lb sc cup none none none none) = .ok (.nx, Lb sc cup' y2 y6 y20 y21) ∧ Cup cup' := by
  have hit : TL.iRng1 (aCons (eC (.int 4)) (aNil)) (Lb sc cup none none none none) = .ok ((List.range 4).map fun i => .int (i : Nat), Lb sc cup none none none none) := by
    refine iRng1_ok (n := 4) ?_ (by omega)
    walk_at "ev"
  generalize TL.iRng1 (aCons (eC (.int 4)) (aNil)) = I at hit ⊢
  obtain ⟨ev', e1, cup', y2, y6, y20, y21, rfl, hc'⟩ := forL_all (b := bName 2) (body := b1B) (fun ev => ∃ cup' y2 y6 y20 y21, ev = Lb sc cup' y2 y6 y20 y21 ∧ Cup cup') (ds := (List.range 4).map fun i => PyData.int (i : Nat))
    (ev := Lb sc cup none none none none) (fun d hd ev hI => by
      obtain ⟨cup', y2, y6, y20, y21, rfl, hc'⟩ := hI
      obtain ⟨cup'', z6, z20, z21, e, hc''⟩ := b1_step sc cup' (some d) y6 y20 y21 hc'
      exact ⟨Lb sc cup' (some d) y6 y20 y21, _, .nx, rfl, e, .inl rfl, cup'', some d, z6, z20, z21, rfl, hc''⟩) ⟨cup, none, none, none, none, rfl, hc⟩
  exact ⟨cup', y2, y6, y20, y21, (sFor_of hit).trans e1, hc'⟩
theorem tl_a (sc cup : D) (x2 x6 x20 x21 : Option D) (hc : Cup cup) : ∃ (cup' : D) (a : Int), (∀ T : DS, (sSeq g2 (sSeq g3 (sSeq g4 (sSeq g5 (sSeq g6 T))))) (Lb sc cup x2 x6 x20 x21) = T [some sc, some cup', x2, some (rD smP), some (rD skP), some TLD, some TLD, some (.int a), none, none, none, none, none, none, none, none, none, none, none, none, x20, x21, none, none, none, none, none, none]) ∧ Cup cup' ∧ -20 ≤ a ∧ a < 20 := by
  obtain ⟨cup', a, e6, h⟩ := s6_ok sc cup x2 x20 x21 hc
  refine ⟨cup', a, fun T => ?_, h⟩
  exact (seq_nx (s2_ok sc cup x2 x20 x21 x6)).trans ((seq_nx (s3_ok sc cup x2 x20 x21 x6)).trans ((seq_nx (s4_ok sc cup x2 x20 x21 x6)).trans ((seq_nx (s5_ok sc cup x2 x20 x21)).trans (seq_nx e6))))
theorem tl_b (sc cup : D) (x2 x20 x21 : Option D) (a : Int) : ∃ x11, ∀ T : DS, (sSeq g7 (sSeq g8 (sSeq g9 (sSeq g10 (sSeq g11 (sSeq g12 T)))))) [some sc, some cup, x2, some (rD smP), some (rD skP), some TLD, some TLD, some (.int a), none, none, none, none, none, none, none, none, none, none, none, none, x20, x21, none, none, none, none, none, none] = T [some sc, some cup, x2, some (rD smP), some (rD skP), some TLD, some TLD, some (.int a), some (rD (srt (square.map (sh (a, 0))))), some (rD (bar.map (sh (0, a)))), some (.list (arms.map tD)), x11, some (.list ((srt wheel).map tD)), some (rD hook), some (.list ((ROWS a).map encR)), none, none, none, none, none, x20, x21, none, none, none, none, none, none] := by
  have r := rows_enc a
  have e7 := s7_ok sc cup x2 x20 x21 a
  have hst := v_stairs
  generalize rD (srt stairs) = dst at r hst
  generalize hsq : rD (srt (square.map (sh (a, 0)))) = sq at r e7 ⊢
  generalize hba : rD (bar.map (sh (0, a))) = ba at r e7 ⊢
  obtain ⟨x11, e9⟩ := s9_ok sc cup x2 x20 x21 sq ba a
  refine ⟨x11, fun T => ?_⟩
  have e8 := s8_ok sc cup x2 x20 x21 sq ba a
  have e10 := s10_ok sc cup x2 x20 x21 sq ba a x11
  have e11 := s11_ok sc cup x2 x20 x21 sq ba (.list (arms.map tD)) (.list ((srt wheel).map tD)) a x11
  have e12 := s12_g [some sc, some cup, x2, some (rD smP), some (rD skP), some TLD, some TLD, some (.int a), some sq, some ba, some (.list (arms.map tD)), x11, some (.list ((srt wheel).map tD)), some (rD hook), none, none, none, none, none, none, x20, x21, none, none, none, none, none, none] a sq ba (rD hook) dst arms (srt wheel) hst rfl rfl rfl rfl rfl rfl
  rw [r] at e12
  generalize (ROWS a).map encR = RW at e12 ⊢
  generalize rD hook = hk at e11 e12 ⊢
  generalize PyData.list (arms.map tD) = ar at e9 e10 e11 e12 ⊢
  generalize PyData.list ((srt wheel).map tD) = wh at e10 e11 e12 ⊢
  generalize rD smP = sm at *
  generalize rD skP = sk at *
  generalize TLD = tl at *
  exact (seq_nx e7).trans ((seq_nx e8).trans ((seq_nx e9).trans ((seq_nx e10).trans ((seq_nx e11).trans (seq_nx e12)))))
theorem tl_c (s0 s2 s4 s5 s6 s7 s8 s9 s10 s11 s12 s13 s20 s21 : Option D) (cup : D) (a : Int) (hc : Cup cup) (ha : -20 ≤ a ∧ a < 20) : ∃ ev, (sSeq g13 (sSeq g14 (sSeq g15 (sSeq g16 g17)))) [s0, some cup, s2, some (rD smP), s4, s5, s6, s7, s8, s9, s10, s11, s12, s13, some (.list ((ROWS a).map encR)), none, none, none, none, none, s20, s21, none, none, none, none, none, none] = .ok (.rt (.bool true), ev) := by
  obtain ⟨cup', s15', s16', e13, hc'⟩ := s13_ok s0 s2 (some (rD smP)) s4 s5 s6 s7 s8 s9 s10 s11 s12 s13 none none none none none s20 s21 none none none none none none cup (ROWS a) hc (rows_good a ha)
  rw [seq_nx e13]
  generalize some (PyData.list ((ROWS a).map encR)) = s14
  generalize hsm : rD smP = sm
  rw [seq_nx (s14_ok _)]
  have e15 : ∀ ev : Ev, g15 ev = .ok (.nx, ev.set 18 (some (.list []))) := fun ev => rfl
  rw [seq_nx (e15 _)]
  generalize hO : PyData.list ODDS = OD
  obtain ⟨o, e16⟩ := s16_ok [s0, some cup', s2, some sm, s4, s5, s6, s7, s8, s9, s10, s11, s12, s13, s14, s15', s16', some OD, some (.list []), none, s20, s21, none, none, none, none, none, none] rfl (by rw [hO]; rfl) (by rw [hsm]; rfl) rfl rfl
  have e17 := s17_ok ([s0, some cup', s2, some sm, s4, s5, s6, s7, s8, s9, s10, s11, s12, s13, s14, s15', s16', some OD, some (.list []), none, s20, s21, none, none, none, none, none, none].set 19 o |>.set 18 (some (.list (List.replicate 49 (PyData.str "piece error"))))) rfl
  exact ⟨_, (seq_nx (s2 := g17) e16).trans e17⟩
theorem law_ch : m_law = sSeq (sSetO 1 (oCallF f__law_cup (chkN f__law_cup.np (aCons (eVar 0) (aNil))))) (sSeq (sFor (TL.iRng1 (aCons (eC (.int 4)) (aNil))) (bName 2) b1B) (sSeq g2 (sSeq g3 (sSeq g4 (sSeq g5 (sSeq g6 (sSeq g7 (sSeq g8 (sSeq g9 (sSeq g10 (sSeq g11 (sSeq g12 (sSeq g13 (sSeq g14 (sSeq g15 (sSeq g16 g17)))))))))))))))) := id rfl
theorem law_m : f_law.m = bodyM 28 none false m_law := id rfl
theorem body1 {n : Nat} {M : DS} {a d : D} {ev : Ev} (h : M ([some a] ++ List.replicate (n - 1) none) = .ok (.rt d, ev)) : bodyM n none false M [a] = .ok (d, .none) := by
  have e : (List.map some [a] ++ List.replicate (n - [a].length) none : Ev) = [some a] ++ List.replicate (n - 1) none := rfl
  unfold bodyM
  rw [e, h]
  rfl
theorem v_law (ns : List Int) (h : ns.length ≤ 63) : ∃ o, f_law.m [scD ns] = .ok (.bool true, o) := by
  obtain ⟨cup, ec, hc⟩ := v_cup ns h
  generalize scD ns = sc at ec ⊢
  have e0 : (sSetO 1 (oCallF f__law_cup (chkN f__law_cup.np (aCons (eVar 0) (aNil)))) : DS) ([some sc] ++ List.replicate 27 none) = .ok (.nx, Lb sc cup none none none none) := by
    unfold Lb
    walk_at "ev"
    rw [ec]
    walk_at "ev"
  obtain ⟨cup1, y2, y6, y20, y21, e1, hc1⟩ := b1_loop sc cup hc
  obtain ⟨cup2, a, e2, hc2, ha⟩ := tl_a sc cup1 y2 y6 y20 y21 hc1
  obtain ⟨x11, e3⟩ := tl_b sc cup2 y2 y20 y21 a
  obtain ⟨ev, e4⟩ := tl_c (some sc) y2 (some (rD skP)) (some TLD) (some TLD) (some (.int a)) (some (rD (srt (square.map (sh (a, 0)))))) (some (rD (bar.map (sh (0, a))))) (some (.list (arms.map tD))) x11 (some (.list ((srt wheel).map tD))) (some (rD hook)) y20 y21 cup2 a hc2 ha
  rw [law_m, law_ch]
  exact ⟨_, body1 (n := 28) ((seq_nx e0).trans ((seq_nx e1).trans ((e2 _).trans ((e3 _).trans e4))))⟩
end WL

set_option Elab.async false
open PySem
set_option maxRecDepth 100000 in
set_option maxHeartbeats 8000000 in
theorem PySem.Challenge.cw_tautlines_k75_whole_likenesses_holds : PySem.Challenge.rw_tautlines_k75_whole_likenesses.Holds := by
  exact WL.holds_of fun ns h _ => WL.v_law ns h
#print axioms PySem.Challenge.cw_tautlines_k75_whole_likenesses_holds

